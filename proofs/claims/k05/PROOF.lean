import PyProof.Rows.All
import Wide.All
import OpenK.AllK
import Wide.FinOn
import HandS.ForMost
import HandS.Exc
import HandS.TryOnly
import HandS.ExcOwn
import HandS.WordsExc
import HandS.IsInst
import HandS.Style
import HandS.TupMul
import HandS.TupAny
import HandS.SortRule
import HandS.Rev
import HandS.RevRange
import HandS.Zip
import HandS.Conv
import HandS.SetFor
import HandS.Defaults
import HandS.HeadHook1
import HandS.HeadHook2
import HandS.Head0
import HandS.Head1
import HandS.Head2
import HandS.HeadEnd
import HandS.Ends
import HandS.HotCalls
import HandS.ExcIs
import HandS.ExcField
import HandS.ExcInit
import KE.KStateDown
import Lean
import HandS.More
import HandS.Words
import PySem.Challenge.RW_beginnet_k05_four_nets
set_option Elab.async false
set_option linter.all false
set_option maxRecDepth 1000000
set_option maxHeartbeats 0
/-! G0: own data, cells, results; how they stand to the layer's values and heaps; canonical readings. -/
namespace G
open L2 PySem PySem.Spec PyProof.Rows
/-! ### data -/
inductive D where
  | non | bl (b : Bool) | int (i : Int) | str (s : Str) | tup (xs : List D) | lst (xs : List D) | ref (i : Nat) | dic | scr (ns : List Int)
instance : Inhabited D := ⟨.non⟩
abbrev En := List (Option D)
abbrev Cs := List (List D)
inductive Exn where
  | lines | thing | kind | nonet | net (at_ : Option Int)
inductive Rs (α : Type) where
  | ok (a : α) (cs : Cs) | ex (e : Exn) (cs : Cs) | no
abbrev M (α : Type) := Cs → Rs α
namespace M
def ret {α : Type} (a : α) : M α := fun cs => .ok a cs
def bnd {α β : Type} (m : M α) (k : α → M β) : M β := fun cs => match m cs with
  | .ok a cs' => k a cs'
  | .ex e cs' => .ex e cs'
  | .no => .no
def no {α : Type} : M α := fun _ => .no
def thr {α : Type} (e : Exn) : M α := fun cs => .ex e cs
def ofO {α : Type} : Option α → M α
  | some a => ret a
  | none => no
theorem bnd_ok {α β : Type} {m : M α} {k : α → M β} {cs cs' : Cs} {a : α} (h : m cs = .ok a cs') : bnd m k cs = k a cs' := by
  unfold bnd
  rw [h]
theorem bnd_ex {α β : Type} {m : M α} {k : α → M β} {cs cs' : Cs} {e : Exn} (h : m cs = .ex e cs') : bnd m k cs = .ex e cs' := by
  unfold bnd
  rw [h]
@[simp] theorem ret_bnd {α β : Type} (a : α) (k : α → M β) : bnd (ret a) k = k a := rfl
@[simp] theorem no_bnd {α β : Type} (k : α → M β) : bnd (no : M α) k = no := rfl
@[simp] theorem thr_bnd {α β : Type} (e : Exn) (k : α → M β) : bnd (thr e : M α) k = thr e := rfl
@[simp] theorem bnd_ret {α : Type} (m : M α) : bnd m ret = m := by
  funext cs
  unfold bnd ret
  cases m cs <;> rfl
@[simp] theorem bnd_bnd {α β γ : Type} (m : M α) (k : α → M β) (l : β → M γ) : bnd (bnd m k) l = bnd m fun a => bnd (k a) l := by
  funext cs
  unfold bnd
  cases m cs <;> rfl
@[simp] theorem ofO_some {α : Type} (a : α) : ofO (some a) = ret a := rfl
@[simp] theorem ofO_none {α : Type} : ofO (none : Option α) = no := rfl
end M
/-! ### heaps -/
def Ext (H H' : Hp) : Prop := ∀ a o, H a = some o → H' a = some o
theorem Ext.refl (H : Hp) : Ext H H := fun _ _ h => h
theorem Ext.trans {H H1 H2 : Hp} (a : Ext H H1) (b : Ext H1 H2) : Ext H H2 := fun x o h => b x o (a x o h)
theorem Ext.new {H : Hp} {p : Addr} {o : HO} (h : H p = none) : Ext H (upd H p o) := fun a u e => by
  rw [upd_ne (ne_of_none e h)]
  exact e
theorem Ext.upd2 {F H : Hp} {p : Addr} {o : HO} (e : Ext F H) : Ext (upd F p o) (upd H p o) := fun a u h => by
  by_cases q : a = p
  · subst q
    rw [upd_same] at h ⊢
    exact h
  · rw [upd_ne q] at h ⊢
    exact e a u h
theorem Ext.mut {F H : Hp} {p : Addr} {o : HO} (e : Ext F H) (h : F p = none) : Ext F (upd H p o) := fun a u ha => by
  rw [upd_ne (ne_of_none ha h)]
  exact e a u ha
theorem Ext.none {H H' : Hp} {p : Addr} (e : Ext H H') (h : H' p = Option.none) : H p = Option.none := by
  cases h1 : H p with
  | none => rfl
  | some o =>
    rw [e p o h1] at h
    cases h
theorem ext_rd {H H' : Hp} {a : Addr} {u : HO} (e : Ext H H') (h : Rd H a u) : Rd H' a u := by
  rcases h with h | ⟨o, h⟩
  · exact .inl (e a _ h)
  · exact .inr ⟨o, e a _ h⟩
theorem ext_t {K : PySem.W.Frag} {H H' : Hp} {a : Addr} {xs : List V} (e : Ext H H') (h : SqT K H a xs) : SqT K H' a xs := by
  rcases h with h | h
  · exact .inl (ext_rd e h)
  · exact .inr h
theorem ext_l {K : PySem.W.Frag} {H H' : Hp} {a : Addr} {xs : List V} (e : Ext H H') (h : SqL K H a xs) : SqL K H' a xs := by
  rcases h with h | h
  · exact .inl (ext_rd e h)
  · exact .inr h
/-! ### a value stands for a datum: F what is frozen, as the cells' places -/
mutual
inductive Dv (K : PySem.W.Frag) (F : Hp) (as : List Addr) : V → D → Prop
  | non : Dv K F as .non .non
  | bl (b : Bool) : Dv K F as (.bl b) (.bl b)
  | int (i : Int) : Dv K F as (.int i) (.int i)
  | str (x : Str) : Dv K F as (.str x) (.str x)
  | tup {a : Addr} {xs : List V} {ds : List D} : F a = some (.tup xs) → DvL K F as xs ds → Dv K F as (.ref a) (.tup ds)
  | lst {a : Addr} {xs : List V} {ds : List D} : F a = some (.lst xs) → DvL K F as xs ds → Dv K F as (.ref a) (.lst ds)
  | ref {a : Addr} {i : Nat} : as[i]? = some a → Dv K F as (.ref a) (.ref i)
  | dic {a : Addr} : F a = some (.dK []) → Dv K F as (.ref a) .dic
  | scr {a : Addr} {ns : List Int} : SqL K F a (ns.map V.int) → Dv K F as (.ref a) (.scr ns)
inductive DvL (K : PySem.W.Frag) (F : Hp) (as : List Addr) : List V → List D → Prop
  | nil : DvL K F as [] []
  | cons {v : V} {vs : List V} {d : D} {ds : List D} : Dv K F as v d → DvL K F as vs ds → DvL K F as (v :: vs) (d :: ds)
end
section
variable {K : PySem.W.Frag} {F F' H H' : Hp} {as as' : List Addr}
theorem pre_get {α : Type} {as as' : List α} (h : as <+: as') {i : Nat} {a : α} (e : as[i]? = some a) : as'[i]? = some a := by
  obtain ⟨t, rfl⟩ := h
  rw [List.getElem?_append_left (List.getElem?_eq_some_iff.mp e).1]
  exact e
mutual
theorem Dv.mono (e : Ext F F') (p : as <+: as') : ∀ {v : V} {d : D}, Dv K F as v d → Dv K F' as' v d
  | _, _, .non => .non
  | _, _, .bl b => .bl b
  | _, _, .int i => .int i
  | _, _, .str x => .str x
  | _, _, .tup h l => .tup (e _ _ h) (DvL.mono e p l)
  | _, _, .lst h l => .lst (e _ _ h) (DvL.mono e p l)
  | _, _, .ref h => .ref (pre_get p h)
  | _, _, .dic h => .dic (e _ _ h)
  | _, _, .scr h => .scr (ext_l e h)
theorem DvL.mono (e : Ext F F') (p : as <+: as') : ∀ {vs : List V} {ds : List D}, DvL K F as vs ds → DvL K F' as' vs ds
  | _, _, .nil => .nil
  | _, _, .cons h t => .cons (Dv.mono e p h) (DvL.mono e p t)
end
theorem DvL.length : ∀ {vs : List V} {ds : List D}, DvL K F as vs ds → vs.length = ds.length
  | _, _, .nil => rfl
  | _, _, .cons _ t => congrArg (· + 1) t.length
theorem DvL.get : ∀ {vs : List V} {ds : List D} {i : Nat} {d : D}, DvL K F as vs ds → ds[i]? = some d → ∃ v, vs[i]? = some v ∧ Dv K F as v d
  | _, _, _, _, .nil, e => by simp at e
  | _, _, 0, _, .cons h _, e => by
    simp at e
    subst e
    exact ⟨_, rfl, h⟩
  | _, _, i + 1, d, .cons _ t, e => by
    obtain ⟨v, h1, h2⟩ := DvL.get (i := i) (d := d) t (by simpa using e)
    exact ⟨v, by simpa using h1, h2⟩
theorem DvL.getV : ∀ {vs : List V} {ds : List D} {i : Nat} {v : V}, DvL K F as vs ds → vs[i]? = some v → ∃ d, ds[i]? = some d ∧ Dv K F as v d
  | _, _, _, _, .nil, e => by simp at e
  | _, _, 0, _, .cons h _, e => by
    simp at e
    subst e
    exact ⟨_, rfl, h⟩
  | _, _, i + 1, v, .cons _ t, e => by
    obtain ⟨d, h1, h2⟩ := DvL.getV (i := i) (v := v) t (by simpa using e)
    exact ⟨d, by simpa using h1, h2⟩
theorem DvL.append : ∀ {vs ws : List V} {ds es : List D}, DvL K F as vs ds → DvL K F as ws es → DvL K F as (vs ++ ws) (ds ++ es)
  | _, _, _, _, .nil, h => h
  | _, _, _, _, .cons h t, g => .cons h (DvL.append t g)
theorem DvL.set {v : V} {d : D} (h : Dv K F as v d) : ∀ {vs : List V} {ds : List D} (i : Nat), DvL K F as vs ds → DvL K F as (vs.set i v) (ds.set i d)
  | _, _, _, .nil => .nil
  | _, _, 0, .cons _ t => .cons h t
  | _, _, i + 1, .cons q t => .cons q (DvL.set h i t)
theorem DvL.take : ∀ {vs : List V} {ds : List D} (i : Nat), DvL K F as vs ds → DvL K F as (vs.take i) (ds.take i)
  | _, _, 0, h => by
    rw [List.take_zero, List.take_zero]
    exact .nil
  | _, _, i + 1, .nil => .nil
  | _, _, i + 1, .cons h t => .cons h (DvL.take i t)
theorem DvL.drop : ∀ {vs : List V} {ds : List D} (i : Nat), DvL K F as vs ds → DvL K F as (vs.drop i) (ds.drop i)
  | _, _, 0, h => h
  | _, _, i + 1, .nil => .nil
  | _, _, i + 1, .cons h t => DvL.drop i t
theorem DvL.rev : ∀ {vs : List V} {ds : List D}, DvL K F as vs ds → DvL K F as vs.reverse ds.reverse
  | _, _, .nil => .nil
  | _, _, .cons h t => by
    rw [List.reverse_cons, List.reverse_cons]
    exact t.rev.append (.cons h .nil)
theorem DvL.eraseIdx : ∀ {vs : List V} {ds : List D} (i : Nat), DvL K F as vs ds → DvL K F as (vs.eraseIdx i) (ds.eraseIdx i)
  | _, _, _, .nil => .nil
  | _, _, 0, .cons _ t => t
  | _, _, i + 1, .cons h t => .cons h (DvL.eraseIdx i t)
theorem DvL.flat : ∀ {n : Nat} {vs : List V} {ds : List D}, DvL K F as vs ds → DvL K F as (List.replicate n vs).flatten (List.replicate n ds).flatten
  | 0, _, _, _ => .nil
  | n + 1, vs, ds, h => by
    rw [List.replicate_succ, List.replicate_succ, List.flatten_cons, List.flatten_cons]
    exact h.append h.flat
theorem DvL.ints : ∀ ns : List Int, DvL K F as (ns.map V.int) (ns.map D.int)
  | [] => .nil
  | n :: r => .cons (.int n) (DvL.ints r)
theorem DvL.bls : ∀ ns : List Bool, DvL K F as (ns.map V.bl) (ns.map D.bl)
  | [] => .nil
  | n :: r => .cons (.bl n) (DvL.bls r)
end
/-! ### what stands, what came since -/
structure Ok (K : PySem.W.Frag) (F H : Hp) (as : List Addr) (cs : Cs) : Prop where
  fh : Ext F H
  nd : as.Nodup
  len : as.length = cs.length
  cell : ∀ (i : Nat) (a : Addr) (xs : List D), as[i]? = some a → cs[i]? = some xs → F a = none ∧ ∃ ys, H a = some (.lst ys) ∧ DvL K F as ys xs
structure Gro (F H : Hp) (as : List Addr) (F' H' : Hp) (as' : List Addr) : Prop where
  ff : Ext F F'
  fn : ∀ p, H p ≠ none → F' p = F p
  hh : ∀ p o, H p = some o → p ∉ as → H' p = some o
  hl : ∀ p, H p ≠ none → H' p ≠ none
  ap : as <+: as'
  an : ∀ p ∈ as', p ∈ as ∨ H p = none
theorem Gro.refl (F H : Hp) (as : List Addr) : Gro F H as F H as := ⟨Ext.refl F, fun _ _ => rfl, fun _ _ h _ => h, fun _ h => h, List.prefix_rfl, fun _ h => .inl h⟩
theorem Gro.trans {F H F1 H1 F2 H2 : Hp} {as as1 as2 : List Addr} (a : Gro F H as F1 H1 as1) (b : Gro F1 H1 as1 F2 H2 as2) : Gro F H as F2 H2 as2 where
  ff := a.ff.trans b.ff
  fn := fun p h => (b.fn p (a.hl p h)).trans (a.fn p h)
  hh := fun p o h n => b.hh p o (a.hh p o h n) fun q => (a.an p q).elim n fun z => by
    rw [h] at z
    cases z
  hl := fun p h => b.hl p (a.hl p h)
  ap := a.ap.trans b.ap
  an := fun p h => (b.an p h).elim (a.an p) fun z => .inr (by
    cases q : H p with
    | none => rfl
    | some o => exact absurd z (a.hl p (by rw [q]; exact fun y => nomatch y)))
section
variable {K : PySem.W.Frag} {F H F' H' : Hp} {as as' : List Addr} {cs : Cs} {p : Addr}
theorem Ok.old (ok : Ok K F H as cs) {a : Addr} (h : a ∈ as) : F a = none ∧ ∃ ys, H a = some (.lst ys) := by
  obtain ⟨i, hi, e⟩ := List.mem_iff_getElem.mp h
  have hc : i < cs.length := by rw [← ok.len]; exact hi
  obtain ⟨h1, ys, h2, _⟩ := ok.cell i a cs[i] (by rw [List.getElem?_eq_getElem hi, e]) (List.getElem?_eq_getElem hc)
  exact ⟨h1, ys, h2⟩
theorem Ok.out (ok : Ok K F H as cs) (h : H p = none) : p ∉ as := fun m => by
  obtain ⟨_, ys, e⟩ := ok.old m
  rw [h] at e
  cases e
theorem Ok.fnone (ok : Ok K F H as cs) (h : H p = none) : F p = none := ok.fh.none h
/-- a new frozen object -/
theorem gro_new (o : HO) (ok : Ok K F H as cs) (h : H p = none) : Gro F H as (upd F p o) (upd H p o) as where
  ff := Ext.new (ok.fnone h)
  fn := fun q hq => upd_ne fun e => hq (by rw [e]; exact h)
  hh := fun q u hq _ => (Ext.new h) q u hq
  hl := fun q hq => by
    rw [upd_ne fun e => hq (by rw [e]; exact h)]
    exact hq
  ap := List.prefix_rfl
  an := fun _ m => .inl m
theorem ok_new (o : HO) (ok : Ok K F H as cs) (h : H p = none) : Ok K (upd F p o) (upd H p o) as cs where
  fh := ok.fh.upd2
  nd := ok.nd
  len := ok.len
  cell := fun i a xs ha hx => by
    obtain ⟨h1, ys, h2, h3⟩ := ok.cell i a xs ha hx
    have ne : a ≠ p := fun e => by
      rw [e, h] at h2
      cases h2
    exact ⟨by rw [upd_ne ne]; exact h1, ys, by rw [upd_ne ne]; exact h2, h3.mono (Ext.new (ok.fnone h)) List.prefix_rfl⟩
/-- a new object that is not frozen -/
theorem gro_out (o : HO) (ok : Ok K F H as cs) (h : H p = none) : Gro F H as F (upd H p o) as where
  ff := Ext.refl F
  fn := fun _ _ => rfl
  hh := fun q u hq _ => (Ext.new h) q u hq
  hl := fun q hq => by
    rw [upd_ne fun e => hq (by rw [e]; exact h)]
    exact hq
  ap := List.prefix_rfl
  an := fun _ m => .inl m
theorem ok_out (o : HO) (ok : Ok K F H as cs) (h : H p = none) : Ok K F (upd H p o) as cs where
  fh := ok.fh.mut (ok.fnone h)
  nd := ok.nd
  len := ok.len
  cell := fun i a xs ha hx => by
    obtain ⟨h1, ys, h2, h3⟩ := ok.cell i a xs ha hx
    have ne : a ≠ p := fun e => by
      rw [e, h] at h2
      cases h2
    exact ⟨h1, ys, by rw [upd_ne ne]; exact h2, h3⟩
/-- a new cell -/
theorem gro_cell (o : HO) (ok : Ok K F H as cs) (h : H p = none) : Gro F H as F (upd H p o) (as ++ [p]) where
  ff := Ext.refl F
  fn := fun _ _ => rfl
  hh := fun q u hq _ => (Ext.new h) q u hq
  hl := fun q hq => by
    rw [upd_ne fun e => hq (by rw [e]; exact h)]
    exact hq
  ap := List.prefix_append _ _
  an := fun q m => (List.mem_append.mp m).elim .inl fun z => .inr (by
    rw [List.mem_singleton.mp z]
    exact h)
theorem ok_cell {ys : List V} {xs : List D} (ok : Ok K F H as cs) (h : H p = none) (hy : DvL K F as ys xs) : Ok K F (upd H p (.lst ys)) (as ++ [p]) (cs ++ [xs]) where
  fh := ok.fh.mut (ok.fnone h)
  nd := List.nodup_append.mpr ⟨ok.nd, List.nodup_cons.mpr ⟨List.not_mem_nil, List.nodup_nil⟩, fun a ha b hb e => by
    rw [List.mem_singleton.mp hb] at e
    rw [e] at ha
    exact ok.out h ha⟩
  len := by rw [List.length_append, List.length_append, ok.len]; rfl
  cell := fun i a zs ha hz => by
    by_cases hi : i < as.length
    · rw [List.getElem?_append_left hi] at ha
      rw [List.getElem?_append_left (by rw [← ok.len]; exact hi)] at hz
      obtain ⟨h1, ws, h2, h3⟩ := ok.cell i a zs ha hz
      have ne : a ≠ p := fun e => by
        rw [e, h] at h2
        cases h2
      exact ⟨h1, ws, by rw [upd_ne ne]; exact h2, h3.mono (Ext.refl F) (List.prefix_append _ _)⟩
    · rw [List.getElem?_append_right (Nat.le_of_not_lt hi)] at ha
      rw [List.getElem?_append_right (by rw [← ok.len]; exact Nat.le_of_not_lt hi), ← ok.len] at hz
      have e0 : i - as.length = 0 := by
        cases q : i - as.length with
        | zero => rfl
        | succ n =>
          rw [q] at ha
          simp at ha
      rw [e0] at ha hz
      have ea : p = a := by simpa using ha
      have ez : xs = zs := by simpa using hz
      subst ea ez
      exact ⟨ok.fnone h, ys, upd_same, hy.mono (Ext.refl F) (List.prefix_append _ _)⟩
/-- a cell's content changes -/
theorem gro_set {i : Nat} {ys : List V} (o : HO) (ok : Ok K F H as cs) (hp : as[i]? = some p) (h : H p = some (.lst ys)) : Gro F H as F (upd H p o) as where
  ff := Ext.refl F
  fn := fun _ _ => rfl
  hh := fun q u hq n => by
    have ne : q ≠ p := fun e => n (by rw [e]; exact List.mem_of_getElem? hp)
    rw [upd_ne ne]
    exact hq
  hl := fun q hq => by
    by_cases e : q = p
    · rw [e, upd_same]
      exact fun z => nomatch z
    · rw [upd_ne e]
      exact hq
  ap := List.prefix_rfl
  an := fun _ m => .inl m
theorem ok_set {i : Nat} {ys : List V} {xs : List D} (ok : Ok K F H as cs) (hp : as[i]? = some p) (hy : DvL K F as ys xs) : Ok K F (upd H p (.lst ys)) as (cs.set i xs) where
  fh := ok.fh.mut (ok.old (List.mem_of_getElem? hp)).1
  nd := ok.nd
  len := by rw [List.length_set, ok.len]
  cell := fun j a zs ha hz => by
    by_cases e : j = i
    · subst e
      rw [hp] at ha
      have ea : p = a := Option.some.inj ha
      have hl : j < cs.length := by
        rw [← ok.len]
        exact (List.getElem?_eq_some_iff.mp hp).1
      rw [List.getElem?_set_self hl] at hz
      have ez : xs = zs := Option.some.inj hz
      subst ea ez
      exact ⟨(ok.old (List.mem_of_getElem? hp)).1, ys, upd_same, hy⟩
    · rw [List.getElem?_set_ne (Ne.symm e)] at hz
      obtain ⟨h1, ws, h2, h3⟩ := ok.cell j a zs ha hz
      have ne : a ≠ p := fun q => e (by
        obtain ⟨l1, e1⟩ := List.getElem?_eq_some_iff.mp ha
        obtain ⟨l2, e2⟩ := List.getElem?_eq_some_iff.mp hp
        exact (List.getElem_inj ok.nd).mp (e1.trans (q.trans e2.symm)))
      exact ⟨h1, ws, by rw [upd_ne ne]; exact h2, h3⟩
theorem Dv.gro {v : V} {d : D} (h : Dv K F as v d) (g : Gro F H as F' H' as') : Dv K F' as' v d := h.mono g.ff g.ap
theorem DvL.gro {v : List V} {d : List D} (h : DvL K F as v d) (g : Gro F H as F' H' as') : DvL K F' as' v d := h.mono g.ff g.ap
end
/-! ### names' slots -/
structure Sl (K : PySem.W.Frag) (F : Hp) (as : List Addr) (σ : L2.St) (env : En) : Prop where
  len : σ.length = env.length
  at_ : ∀ (i : Nat) (d : D), env[i]? = some (some d) → ∃ v, σ[i]? = some (some v) ∧ Dv K F as v d
section
variable {K : PySem.W.Frag} {F H F' H' : Hp} {as as' : List Addr} {σ : L2.St} {env : En}
theorem Sl.gro (s : Sl K F as σ env) (g : Gro F H as F' H' as') : Sl K F' as' σ env := ⟨s.len, fun i d e => by
  obtain ⟨v, h1, h2⟩ := s.at_ i d e
  exact ⟨v, h1, h2.gro g⟩⟩
theorem Sl.set {v : V} {d : D} (s : Sl K F as σ env) (h : Dv K F as v d) (i : Nat) : Sl K F as (σ.set i (some v)) (env.set i (some d)) := ⟨by rw [List.length_set, List.length_set, s.len], fun j e he => by
  by_cases q : j = i
  · subst q
    by_cases hl : j < env.length
    · rw [List.getElem?_set_self hl] at he
      rw [List.getElem?_set_self (by rw [s.len]; exact hl)]
      have ee : d = e := Option.some.inj (Option.some.inj he)
      subst ee
      exact ⟨v, rfl, h⟩
    · rw [List.getElem?_eq_none (by rw [List.length_set]; exact Nat.le_of_not_lt hl)] at he
      cases he
  · rw [List.getElem?_set_ne (Ne.symm q)] at he ⊢
    exact s.at_ j e he⟩
theorem Sl.unset (s : Sl K F as σ env) (i : Nat) (x : Option V) : Sl K F as (σ.set i x) (env.set i none) := ⟨by rw [List.length_set, List.length_set, s.len], fun j e he => by
  by_cases q : j = i
  · subst q
    by_cases hl : j < env.length
    · rw [List.getElem?_set_self hl] at he
      cases Option.some.inj he
    · rw [List.getElem?_eq_none (by rw [List.length_set]; exact Nat.le_of_not_lt hl)] at he
      cases he
  · rw [List.getElem?_set_ne (Ne.symm q)] at he ⊢
    exact s.at_ j e he⟩
/-- the slots of a comprehension's own names forgotten -/
def wip (env : En) : List Nat → En
  | [] => env
  | v :: vs => (wip env vs).set v none
theorem Sl.wip (s : Sl K F as σ env) : ∀ vs : List Nat, Sl K F as (wipe σ vs) (G.wip env vs)
  | [] => s
  | v :: vs => (Sl.wip s vs).unset v none
theorem Sl.start : ∀ (n : Nat) {vs : List V} {ds : List D}, DvL K F as vs ds → Sl K F as (vs.map some ++ List.replicate n none) (ds.map some ++ List.replicate n none) := fun n {vs ds} h => ⟨by simp [h.length], fun i d e => by
  by_cases hi : i < ds.length
  · rw [List.getElem?_append_left (by simpa using hi), List.getElem?_map] at e
    cases q : ds[i]? with
    | none =>
      rw [q] at e
      cases e
    | some d' =>
      rw [q] at e
      have ed : d' = d := Option.some.inj (Option.some.inj e)
      subst ed
      obtain ⟨v, h1, h2⟩ := h.get q
      refine ⟨v, ?_, h2⟩
      rw [List.getElem?_append_left (by simpa [h.length] using hi), List.getElem?_map, h1]
      rfl
  · rw [List.getElem?_append_right (by simpa using hi)] at e
    obtain ⟨_, q⟩ := List.getElem?_eq_some_iff.mp e
    rw [List.getElem_replicate] at q
    cases q⟩
end
/-! ### results as wishes -/
structure Ct where
  lines : Addr
  thing : Addr
  kind : Addr
  nonet : Addr
  net : Addr
def atV : Option Int → V
  | none => .non
  | some i => .int i
def XRel (ct : Ct) (H : Hp) : Exn → Value → Option Addr → Prop
  | .lines, c, d => c = .ref ct.lines ∧ d = none
  | .thing, c, d => c = .ref ct.thing ∧ d = none
  | .kind, c, d => c = .ref ct.kind ∧ d = none
  | .nonet, c, d => c = .ref ct.nonet ∧ d = none
  | .net o, c, d => c = .ref ct.net ∧ ∃ dd fs, d = some dd ∧ H dd = some (.xd fs) ∧ fs.lookup (PySem.Str.ofString "at") = some (atV o)
def out {α : Type} (K : PySem.W.Frag) (ct : Ct) (W : WX) (n : Nat) (F H : Hp) (as : List Addr) (r : Rs α) (P : α → Cs → Hp → Hp → List Addr → Prop) : Prop := match r with
  | .ok a cs => ∀ F' H' as', Gro F H as F' H' as' → Ok K F' H' as' cs → P a cs F' H' as'
  | .ex x cs => ∀ c d σ' F' H' as', σ'.length = n → Gro F H as F' H' as' → Ok K F' H' as' cs → XRel ct H' x c d → W c d σ' H'
  | .no => False
section
variable {α β : Type} {K : PySem.W.Frag} {ct : Ct} {W : WX} {n : Nat} {F H F1 H1 : Hp} {as as1 : List Addr}
theorem out_mono {r : Rs α} {P : α → Cs → Hp → Hp → List Addr → Prop} (g : Gro F H as F1 H1 as1) (h : out K ct W n F H as r P) : out K ct W n F1 H1 as1 r P := by
  cases r with
  | ok a cs => exact fun F' H' as' g' o => h F' H' as' (g.trans g') o
  | ex x cs => exact fun c d σ' F' H' as' l g' o x' => h c d σ' F' H' as' l (g.trans g') o x'
  | no => exact h
theorem out_imp {r : Rs α} {P P' : α → Cs → Hp → Hp → List Addr → Prop} (h : out K ct W n F H as r P) (k : ∀ a cs F' H' as', Gro F H as F' H' as' → Ok K F' H' as' cs → P a cs F' H' as' → P' a cs F' H' as') : out K ct W n F H as r P' := by
  cases r with
  | ok a cs => exact fun F' H' as' g o => k a cs F' H' as' g o (h F' H' as' g o)
  | ex x cs => exact h
  | no => exact h
theorem out_bnd {m : M α} {k : α → M β} {cs : Cs} {P : β → Cs → Hp → Hp → List Addr → Prop} (h : out K ct W n F H as (M.bnd m k cs) P) : out K ct W n F H as (m cs) fun a cs' F' H' as' => out K ct W n F' H' as' (k a cs') P := by
  unfold M.bnd at h
  cases e : m cs with
  | ok a cs' =>
    rw [e] at h
    exact fun F' H' as' g o => out_mono g h
  | ex x cs' =>
    rw [e] at h
    exact h
  | no =>
    rw [e] at h
    exact h
theorem out_ok {a : α} {cs : Cs} {P : α → Cs → Hp → Hp → List Addr → Prop} (o : Ok K F H as cs) (h : out K ct W n F H as (.ok a cs) P) : P a cs F H as := h F H as (Gro.refl F H as) o
end
/-! ### canonical readings -/
def oD (K : PySem.W.Frag) (Q : VK) : D → Cs → Hp → Hp → List Addr → Prop := fun d _ F' H' as' => ∀ v, Dv K F' as' v d → Q v H'
def tD (K : PySem.W.Frag) (ct : Ct) (W : WX) (m : En → M D) : TE := fun σ H Q => ∃ F as env cs, Ok K F H as cs ∧ Sl K F as σ env ∧ out K ct W σ.length F H as (m env cs) (oD K Q)
def tT (K : PySem.W.Frag) (ct : Ct) (W : WX) (m : En → M Bool) : TT := fun σ H Q => ∃ F as env cs, Ok K F H as cs ∧ Sl K F as σ env ∧ out K ct W σ.length F H as (m env cs) fun b _ _ H' _ => Q b H'
def tA (K : PySem.W.Frag) (ct : Ct) (W : WX) (m : En → M (List D)) : TA := fun σ H Q => ∃ F as env cs, Ok K F H as cs ∧ Sl K F as σ env ∧ out K ct W σ.length F H as (m env cs) fun ds _ F' H' as' => ∀ vs, DvL K F' as' vs ds → Q vs H'
inductive Fl where
  | nx (env : En) | rt (d : D) | bk (env : En) | ct (env : En)
def oS (K : PySem.W.Frag) (n : Nat) (E : Ends) : Fl → Cs → Hp → Hp → List Addr → Prop
  | .nx env', _, F', H', as' => ∀ σ', σ'.length = n → Sl K F' as' σ' env' → E.nx σ' H'
  | .rt d, _, F', H', as' => ∀ v, Dv K F' as' v d → E.rt v H'
  | .bk env', _, F', H', as' => ∀ σ', σ'.length = n → Sl K F' as' σ' env' → E.bk σ' H'
  | .ct env', _, F', H', as' => ∀ σ', σ'.length = n → Sl K F' as' σ' env' → E.ct σ' H'
def tS (K : PySem.W.Frag) (ct : Ct) (W : WX) (m : En → M Fl) : TS := fun E σ H => ∃ F as env cs, Ok K F H as cs ∧ Sl K F as σ env ∧ out K ct W σ.length F H as (m env cs) (oS K σ.length E)
theorem PE.imp {X : Cx} {e : Expr} {t t' : TE} (h : PE X e t) (k : ∀ σ H Q, t' σ H Q → t σ H Q) : PE X e t' := ⟨fun pins s σ H Q I w => h.run pins s σ H Q I (k σ H Q w)⟩
theorem PT.imp {X : Cx} {e : Expr} {t t' : TT} (h : PT X e t) (k : ∀ σ H Q, t' σ H Q → t σ H Q) : PT X e t' := ⟨fun pins s σ H Q I w => h.run pins s σ H Q I (k σ H Q w)⟩
theorem PA.imp {X : Cx} {e : List Expr} {t t' : TA} (h : PA X e t) (k : ∀ σ H Q, t' σ H Q → t σ H Q) : PA X e t' := ⟨fun pos pins s σ H Q I w => h.run pos pins s σ H Q I (k σ H Q w)⟩
theorem PS.imp {X : Cx} {e : Stmt} {t t' : TS} (h : PS X e t) (k : ∀ E σ H, t' E σ H → t E σ H) : PS X e t' := ⟨fun pins s σ H E I w => h.run pins s σ H E I (k E σ H w)⟩
theorem PSs.imp {X : Cx} {e : List Stmt} {t t' : TS} (h : PSs X e t) (k : ∀ E σ H, t' E σ H → t E σ H) : PSs X e t' := ⟨fun pins s σ H E I w => h.run pins s σ H E I (k E σ H w)⟩
end G
/-! G1: expressions. -/
namespace G
open L2 PySem PySem.Spec PyProof.Rows
def szOk (n : Nat) : Bool := decide (n ≤ 1000000)
theorem szOk_le {n : Nat} (h : szOk n = true) : n ≤ sizeLine := Nat.le_trans (of_decide_eq_true h) (by decide)
theorem szOk_lt {n : Nat} (h : szOk n = true) : n < sizeLine := Nat.lt_of_le_of_lt (of_decide_eq_true h) (by decide)
/-! ### what a datum holds -/
def lstOf (cs : Cs) : D → Option (List D)
  | .lst xs => some xs
  | .ref i => cs[i]?
  | _ => none
def seqOf (cs : Cs) : D → Option (List D)
  | .scr ns => some (ns.map .int)
  | d => lstOf cs d
section
variable {K : PySem.W.Frag} {F H : Hp} {as : List Addr} {cs : Cs} {v : V} {d : D} {xs : List D}
theorem lst_at (ok : Ok K F H as cs) (h : Dv K F as v d) (e : lstOf cs d = some xs) : ∃ a ys, v = .ref a ∧ H a = some (.lst ys) ∧ DvL K F as ys xs := by
  cases h with
  | lst h1 h2 =>
    cases e
    exact ⟨_, _, rfl, ok.fh _ _ h1, h2⟩
  | ref h1 =>
    obtain ⟨_, ys, h2, h3⟩ := ok.cell _ _ _ h1 e
    exact ⟨_, ys, rfl, h2, h3⟩
  | _ => cases e
theorem seq_at (ok : Ok K F H as cs) (h : Dv K F as v d) (e : seqOf cs d = some xs) : ∃ a ys, v = .ref a ∧ SqL K H a ys ∧ DvL K F as ys xs := by
  cases d with
  | scr ns =>
    cases h with
    | scr h1 =>
      cases e
      exact ⟨_, _, rfl, ext_l ok.fh h1, DvL.ints ns⟩
  | _ =>
    obtain ⟨a, ys, h1, h2, h3⟩ := lst_at ok h e
    exact ⟨a, ys, h1, SqL.of h2, h3⟩
end
/-! ### new objects -/
/-- a new list: frozen, or a cell -/
def mkL (c : Bool) (zs : List D) : M D := fun cs => if c = true then .ok (.ref cs.length) (cs ++ [zs]) else .ok (.lst zs) cs
@[simp] theorem mkL_f (zs : List D) : mkL false zs = M.ret (.lst zs) := rfl
section
variable {K : PySem.W.Frag} {ct : Ct} {W : WX} {n : Nat} {F H : Hp} {as : List Addr} {cs : Cs} {Q : VK}
theorem new_mk {c : Bool} {zs : List D} {ys : List V} (ok : Ok K F H as cs) (hy : DvL K F as ys zs) (h : out K ct W n F H as (mkL c zs cs) (oD K Q)) (p : Addr) (hp : H p = none) : Q (.ref p) (upd H p (.lst ys)) := by
  cases c with
  | false => exact h _ _ as (gro_new _ ok hp) (ok_new _ ok hp) _ (.lst upd_same (hy.mono (Ext.new (ok.fnone hp)) List.prefix_rfl))
  | true =>
    refine h _ _ (as ++ [p]) (gro_cell _ ok hp) (ok_cell ok hp hy) _ (.ref ?_)
    rw [List.getElem?_append_right (by rw [ok.len]; exact Nat.le_refl _), ok.len, Nat.sub_self]
    rfl
theorem new_tup {zs : List D} {ys : List V} (ok : Ok K F H as cs) (hy : DvL K F as ys zs) (h : out K ct W n F H as (.ok (.tup zs) cs) (oD K Q)) (p : Addr) (hp : H p = none) : Q (.ref p) (upd H p (.tup ys)) :=
  h _ _ as (gro_new _ ok hp) (ok_new _ ok hp) _ (.tup upd_same (hy.mono (Ext.new (ok.fnone hp)) List.prefix_rfl))
theorem end_ok {d : D} {v : V} (ok : Ok K F H as cs) (hv : Dv K F as v d) (h : out K ct W n F H as (.ok d cs) (oD K Q)) : Q v H := out_ok ok h v hv
end
/-! ### names, constants -/
def xVar (i : Nat) : En → M D := fun env => match env[i]? with
  | some (some d) => M.ret d
  | _ => M.no
def xC (d : D) : En → M D := fun _ => M.ret d
/-- what needs no heap -/
def flatD : D → Bool
  | .non | .bl _ | .int _ | .str _ => true
  | _ => false
section
variable {X : Cx} {ct : Ct} {W : WX}
theorem ge_var {i : Nat} {e : Expr} (h : PE X e (tVar i)) : PE X e (tD X.K ct W (xVar i)) := PE.imp h (by
  rintro σ H Q ⟨F, as, env, cs, ok, sl, h⟩
  unfold xVar at h
  cases q : env[i]? with
  | none =>
    rw [q] at h
    exact False.elim h
  | some o =>
    rw [q] at h
    cases o with
    | none => exact False.elim h
    | some d =>
      obtain ⟨v, h1, h2⟩ := sl.at_ i d q
      exact ⟨v, h1, end_ok ok h2 h⟩)
theorem ge_c {d : D} {v : V} {e : Expr} (h : PE X e (tC v)) (hd : ∀ F as, Dv X.K F as v d) : PE X e (tD X.K ct W (xC d)) := PE.imp h (by
  rintro σ H Q ⟨F, as, env, cs, ok, sl, h⟩
  exact end_ok ok (hd F as) h)
theorem ge_int {i j pos} : PE X (.Constant (.int i) j pos) (tD X.K ct W (xC (.int i))) := ge_c pe_int fun _ _ => .int i
theorem ge_bl {b j pos} : PE X (.Constant (.bool b) j pos) (tD X.K ct W (xC (.bl b))) := ge_c pe_bl fun _ _ => .bl b
theorem ge_non {j pos} : PE X (.Constant .none j pos) (tD X.K ct W (xC .non)) := ge_c pe_non fun _ _ => .non
theorem ge_str {x j pos} : PE X (.Constant (.str x) j pos) (tD X.K ct W (xC (.str x))) := ge_c pe_str fun _ _ => .str x
end
/-! ### operators -/
def xBin (f : D → D → M D) (a b : En → M D) : En → M D := fun env => M.bnd (a env) fun x => M.bnd (b env) fun y => f x y
def xUn (f : D → M D) (a : En → M D) : En → M D := fun env => M.bnd (a env) f
def OpD (K : PySem.W.Frag) (ct : Ct) (r : R2) (f : D → D → M D) : Prop :=
  ∀ (W : WX) (n : Nat) (F H : Hp) (as : List Addr) (cs : Cs) (x y : V) (d e : D) (Q : VK), Ok K F H as cs → Dv K F as x d → Dv K F as y e → out K ct W n F H as (f d e cs) (oD K Q) → r x y H Q
theorem OpD.or {K : PySem.W.Frag} {ct : Ct} {r r' : R2} {f f' : D → D → M D} (p : D → D → Bool) (h : OpD K ct r f) (h' : OpD K ct r' f') : OpD K ct (fun x y H Q => r x y H Q ∨ r' x y H Q) (fun d e => if p d e = true then f d e else f' d e) := fun W n F H as cs x y d e Q ok hx hy ho => by
  have ho : out K ct W n F H as ((if p d e = true then f d e else f' d e) cs) (oD K Q) := ho
  by_cases q : p d e = true
  · rw [if_pos q] at ho
    exact .inl (h W n F H as cs x y d e Q ok hx hy ho)
  · rw [if_neg q] at ho
    exact .inr (h' W n F H as cs x y d e Q ok hx hy ho)
section
variable {X : Cx} {ct : Ct} {W : WX} {a b c : Expr} {ma mb mc : En → M D} {f g : D → D → M D} {r r' : R2} {pos : Pos}
theorem tOp_of {K : PySem.W.Frag} (od : OpD K ct r f) {σ : L2.St} {H : Hp} {Q : VK} (h : tD K ct W (xBin f ma mb) σ H Q) : tOp r (tD K ct W ma) (tD K ct W mb) σ H Q := by
  obtain ⟨F, as, env, cs, ok, sl, h⟩ := h
  refine ⟨F, as, env, cs, ok, sl, out_imp (out_bnd h) fun d cs1 F1 H1 as1 g ok1 h1 v hv => ?_⟩
  refine ⟨F1, as1, env, cs1, ok1, sl.gro g, out_imp (out_bnd h1) fun e cs2 F2 H2 as2 g2 ok2 h2 u hu => ?_⟩
  exact od W _ F2 H2 as2 cs2 v u d e Q ok2 (hv.gro g2) hu h2
theorem ge_op {op : Operator} (ho : OpR X (binaryOp op) r) (od : OpD X.K ct r f) (ha : PE X a (tD X.K ct W ma)) (hb : PE X b (tD X.K ct W mb)) : PE X (.BinOp a op b pos) (tD X.K ct W (xBin f ma mb)) := PE.imp (pe_op ho ha hb) fun _ _ _ => tOp_of od
theorem ge_cmp {op : CmpOp} (ho : OpR X (compareOp op) r) (od : OpD X.K ct r f) (ha : PE X a (tD X.K ct W ma)) (hb : PE X b (tD X.K ct W mb)) (hm : behindInMarks op b = false) : PE X (.Compare a [op] [b] pos) (tD X.K ct W (xBin f ma mb)) := PE.imp (pe_cmpR ho ha hb hm) fun _ _ _ => tOp_of od
theorem ge_ix (hr : IxR X r) (od : OpD X.K ct r f) (ha : PE X a (tD X.K ct W ma)) (hb : PE X b (tD X.K ct W mb)) (hs : PlainIx b) : PE X (.Subscript a b pos) (tD X.K ct W (xBin f ma mb)) := PE.imp (pe_ix hr ha hb hs) fun _ _ _ => tOp_of od
def xChain (f g : D → D → M D) (a b c : En → M D) : En → M D := fun env => M.bnd (a env) fun x => M.bnd (b env) fun y => M.bnd (f x y) fun z => match z with
  | .bl true => M.bnd (c env) fun w => g y w
  | .bl false => M.ret (.bl false)
  | _ => M.no
theorem tChain_of {K : PySem.W.Frag} (od : OpD K ct r f) (od' : OpD K ct r' g) {σ : L2.St} {H : Hp} {Q : VK} (h : tD K ct W (xChain f g ma mb mc) σ H Q) : tChain r r' (tD K ct W ma) (tD K ct W mb) (tD K ct W mc) σ H Q := by
  obtain ⟨F, as, env, cs, ok, sl, h⟩ := h
  refine ⟨F, as, env, cs, ok, sl, out_imp (out_bnd h) fun d cs1 F1 H1 as1 g1 ok1 h1 v hv => ?_⟩
  refine ⟨F1, as1, env, cs1, ok1, sl.gro g1, out_imp (out_bnd h1) fun e cs2 F2 H2 as2 g2 ok2 h2 u hu => ?_⟩
  refine od W σ.length F2 H2 as2 cs2 v u d e _ ok2 (hv.gro g2) hu (out_imp (out_bnd h2) fun z cs3 F3 H3 as3 g3 ok3 h3 w hw => ?_)
  split at h3
  · cases hw
    refine ⟨true, rfl, ?_⟩
    rw [if_pos rfl]
    refine ⟨F3, as3, env, cs3, ok3, ((sl.gro g1).gro g2).gro g3, out_imp (out_bnd h3) fun y cs4 F4 H4 as4 g4 ok4 h4 t ht => ?_⟩
    exact od' W _ F4 H4 as4 cs4 u t e y Q ok4 ((hu.gro g3).gro g4) ht h4
  · cases hw
    refine ⟨false, rfl, ?_⟩
    rw [if_neg Bool.false_ne_true]
    exact end_ok ok3 (.bl false) h3
  · exact False.elim h3
theorem ge_chain {op op' : CmpOp} (ho : OpR X (compareOp op) r) (od : OpD X.K ct r f) (ho' : OpR X (compareOp op') r') (od' : OpD X.K ct r' g) (ha : PE X a (tD X.K ct W ma)) (hb : PE X b (tD X.K ct W mb)) (hc : PE X c (tD X.K ct W mc))
    (hm : lastMarks [op, op'] [b, c] = false := by with_unfolding_all rfl) : PE X (.Compare a [op, op'] [b, c] pos) (tD X.K ct W (xChain f g ma mb mc)) := PE.imp (pe_chain ho ho' ha hb hc hm) fun _ _ _ => tChain_of od od'
/-- one-place operators -/
def UnD (K : PySem.W.Frag) (ct : Ct) (r : V → Hp → VK → Prop) (f : D → M D) : Prop :=
  ∀ (W : WX) (n : Nat) (F H : Hp) (as : List Addr) (cs : Cs) (x : V) (d : D) (Q : VK), Ok K F H as cs → Dv K F as x d → out K ct W n F H as (f d cs) (oD K Q) → r x H Q
theorem un_of {K : PySem.W.Frag} {r : V → Hp → VK → Prop} {f : D → M D} (od : UnD K ct r f) {σ : L2.St} {H : Hp} {Q : VK} (h : tD K ct W (xUn f ma) σ H Q) : tD K ct W ma σ H fun x H1 => r x H1 Q := by
  obtain ⟨F, as, env, cs, ok, sl, h⟩ := h
  exact ⟨F, as, env, cs, ok, sl, out_imp (out_bnd h) fun d cs1 F1 H1 as1 g ok1 h1 v hv => od W _ F1 H1 as1 cs1 v d Q ok1 hv h1⟩
theorem ge_un {op : UnaryOp} {r : V → Hp → VK → Prop} {f : D → M D} (ho : UnR X (unaryOp op) r) (od : UnD X.K ct r f) (ha : PE X a (tD X.K ct W ma)) : PE X (.UnaryOp op a pos) (tD X.K ct W (xUn f ma)) := PE.imp (pe_un ho ha) fun _ _ _ => un_of od
end
/-! #### ints -/
def iOp (C : Int → Int → Bool) (g : Int → Int → D) : D → D → M D
  | .int i, .int j => if C i j = true then M.ret (g i j) else M.no
  | _, _ => M.no
section
variable {K : PySem.W.Frag} {ct : Ct}
theorem od_I {C : Int → Int → Prop} {Cb : Int → Int → Bool} {g : Int → Int → V} {gd : Int → Int → D} (hc : ∀ i j, Cb i j = true → C i j) (hg : ∀ F as i j, Dv K F as (g i j) (gd i j)) : OpD K ct (rI C g) (iOp Cb gd) := fun W n F H as cs x y d e Q ok hx hy h => by
  unfold iOp at h
  split at h
  · split at h
    · rename_i i j q
      cases hx
      cases hy
      exact ⟨i, j, rfl, rfl, hc i j q, end_ok ok (hg F as i j) h⟩
    · exact False.elim h
  · exact False.elim h
theorem od_I0 {g : Int → Int → V} {gd : Int → Int → D} (hg : ∀ F as i j, Dv K F as (g i j) (gd i j)) : OpD K ct (rI0 g) (iOp (fun _ _ => true) gd) := fun W n F H as cs x y d e Q ok hx hy h => by
  unfold iOp at h
  split at h
  · rename_i i j
    rw [if_pos rfl] at h
    cases hx
    cases hy
    exact ⟨i, j, rfl, rfl, end_ok ok (hg F as i j) h⟩
  · exact False.elim h
def opSub := iOp (fun _ _ => true) fun i j => .int (i - j)
def opLt := iOp (fun _ _ => true) fun i j => .bl (decide (i < j))
def opLe := iOp (fun _ _ => true) fun i j => .bl (decide (i ≤ j))
def opGt := iOp (fun _ _ => true) fun i j => .bl (decide (j < i))
def opGe := iOp (fun _ _ => true) fun i j => .bl (decide (j ≤ i))
def opDiv := iOp (fun _ j => decide (0 < j ∧ j < 1073741824)) fun i j => .int (i / j)
def opMod := iOp (fun _ j => decide (0 < j)) fun i j => .int (i % j)
def opPow := iOp (fun i j => decide (0 ≤ j ∧ j ≤ 1000000 ∧ i.natAbs < 2 ^ 64)) fun i j => .int (i ^ j.toNat)
theorem od_sub : OpD K ct (rI0 fun i j => .int (i - j)) opSub := od_I0 fun _ _ _ _ => .int _
theorem od_lt : OpD K ct (rI0 fun i j => .bl (decide (i < j))) opLt := od_I0 fun _ _ _ _ => .bl _
theorem od_le : OpD K ct (rI0 fun i j => .bl (decide (i ≤ j))) opLe := od_I0 fun _ _ _ _ => .bl _
theorem od_gt : OpD K ct (rI0 fun i j => .bl (decide (j < i))) opGt := od_I0 fun _ _ _ _ => .bl _
theorem od_ge : OpD K ct (rI0 fun i j => .bl (decide (j ≤ i))) opGe := od_I0 fun _ _ _ _ => .bl _
theorem od_div : OpD K ct (rI CDiv fun i j => .int (i / j)) opDiv := od_I (fun i j h => show _ ∧ _ from of_decide_eq_true h) fun _ _ _ _ => .int _
theorem od_mod : OpD K ct (rI (fun _ j => 0 < j) fun i j => .int (i % j)) opMod := od_I (fun _ _ h => of_decide_eq_true h) fun _ _ _ _ => .int _
theorem od_pow : OpD K ct (rI CPow fun i j => .int (i ^ j.toNat)) opPow := od_I (fun i j h => show _ ∧ _ from of_decide_eq_true h) fun _ _ _ _ => .int _
end
/-! #### + and * -/
def opAdd (c : Bool) : D → D → M D
  | .int i, .int j => M.ret (.int (i + j))
  | .str x, .str y => if szOk (x.length + y.length) = true then M.ret (.str (x ++ y)) else M.no
  | .tup xs, .tup ys => if szOk (xs.length + ys.length) = true then M.ret (.tup (xs ++ ys)) else M.no
  | a, b => fun cs => match lstOf cs a, lstOf cs b with
    | some xs, some ys => if szOk (xs.length + ys.length) = true then mkL c (xs ++ ys) cs else .no
    | _, _ => .no
def rAddA (K : PySem.W.Frag) : R2 := fun x y H Q => (rI0 (fun i j => .int (i + j)) x y H Q) ∨ (fun x y H Q => (∃ i j, x = .str i ∧ y = .str j ∧ i.length + j.length ≤ sizeLine ∧ Q (.str (i ++ j)) H) ∨ (rCatA K x y H Q ∨ rCat x y H Q)) x y H Q
theorem op_addA {X : Cx} : OpR X (binaryOp .Add) (rAddA X.K) := OpR.or op_add (OpR.or op_add_str (OpR.or op_catA op_cat))
theorem DvL.nil_iff {K : PySem.W.Frag} {F : Hp} {as : List Addr} {vs : List V} {ds : List D} (h : DvL K F as vs ds) : vs = [] ↔ ds = [] := by
  cases h with
  | nil => simp
  | cons _ _ => simp
theorem od_add {K : PySem.W.Frag} {ct : Ct} (c : Bool) : OpD K ct (rAddA K) (opAdd c) := fun W n F H as cs x y d e Q ok hx hy h => by
  unfold opAdd at h
  split at h
  · cases hx
    cases hy
    exact .inl ⟨_, _, rfl, rfl, end_ok ok (.int _) h⟩
  · split at h
    · rename_i q
      cases hx
      cases hy
      exact .inr (.inl ⟨_, _, rfl, rfl, szOk_le q, end_ok ok (.str _) h⟩)
    · exact False.elim h
  · split at h
    · rename_i xs ys q
      cases hx with
      | tup t1 l1 =>
        cases hy with
        | tup t2 l2 =>
          refine .inr (.inr (.inl ⟨_, _, _, _, rfl, rfl, SqT.of (ok.fh _ _ t1), SqT.of (ok.fh _ _ t2), by rw [l1.length, l2.length]; exact szOk_le q, fun z => ?_, fun z z2 => ?_, fun z z2 p hp => ?_⟩))
          · rw [l1.nil_iff.mp z] at h
            exact end_ok ok (.tup t2 l2) h
          · rw [l2.nil_iff.mp z2, List.append_nil] at h
            exact end_ok ok (.tup t1 l1) h
          · exact new_tup ok (l1.append l2) h p hp
    · exact False.elim h
  · dsimp only at h
    split at h
    · split at h
      · rename_i e1 e2 q
        obtain ⟨a, ys, rfl, h1, l1⟩ := lst_at ok hx e1
        obtain ⟨b, zs, rfl, h2, l2⟩ := lst_at ok hy e2
        exact .inr (.inr (.inr ⟨a, b, ys, zs, rfl, rfl, h1, h2, by rw [l1.length, l2.length]; exact szOk_le q, new_mk ok (l1.append l2) h⟩))
      · exact False.elim h
    · exact False.elim h
/-- ints; a list n times -/
def opMul (c : Bool) : D → D → M D
  | .int i, .int j => if decide ((-(2 ^ 64) < i ∧ i < 2 ^ 64) ∨ (-(2 ^ 64) < j ∧ j < 2 ^ 64)) = true then M.ret (.int (i * j)) else M.no
  | a, .int k => fun cs => match lstOf cs a with
    | some xs => if (decide (-(2 ^ 63) ≤ k ∧ k < 2 ^ 63) && szOk (xs.length * k.toNat)) = true then mkL c (List.replicate k.toNat xs).flatten cs else .no
    | none => .no
  | _, _ => M.no
def rMulA : R2 := fun x y H Q => (rI CMul (fun i j => .int (i * j)) x y H Q) ∨ rRep x y H Q
theorem op_mulA {X : Cx} : OpR X (binaryOp .Mult) rMulA := OpR.or op_mul op_rep
theorem od_mul {K : PySem.W.Frag} {ct : Ct} (c : Bool) : OpD K ct rMulA (opMul c) := fun W n F H as cs x y d e Q ok hx hy h => by
  unfold opMul at h
  split at h
  · split at h
    · rename_i q
      cases hx
      cases hy
      exact .inl ⟨_, _, rfl, rfl, (show _ ∨ _ from of_decide_eq_true q), end_ok ok (.int _) h⟩
    · exact False.elim h
  · dsimp only at h
    split at h
    · split at h
      · rename_i e1 q
        obtain ⟨a, ys, rfl, h1, l1⟩ := lst_at ok hx e1
        cases hy
        obtain ⟨q1, q2⟩ := Bool.and_eq_true_iff.mp q
        obtain ⟨q3, q4⟩ := of_decide_eq_true q1
        exact .inr ⟨a, _, ys, rfl, rfl, h1, q3, q4, by rw [l1.length]; exact szOk_le q2, new_mk ok l1.flat h⟩
      · exact False.elim h
    · exact False.elim h
  · exact False.elim h
/-! #### - -/
def opNeg : D → M D
  | .int i => M.ret (.int (-i))
  | _ => M.no
theorem ud_neg {K : PySem.W.Frag} {ct : Ct} : UnD K ct (rU fun i => .int (-i)) opNeg := fun W n F H as cs x d Q ok hx h => by
  unfold opNeg at h
  split at h
  · cases hx
    exact ⟨_, rfl, end_ok ok (.int _) h⟩
  · exact False.elim h
/-! #### is None -/
def opIsN (b : Bool) : D → D → M D
  | .non, .non => M.ret (.bl b)
  | _, .non => M.ret (.bl (!b))
  | _, _ => M.no
theorem isN_v {K : PySem.W.Frag} {F : Hp} {as : List Addr} {x : V} {d : D} (h : Dv K F as x d) (q : d = .non → False) : decide (x = .non) = false := decide_eq_false fun e => by
  subst e
  cases h
  exact q rfl
theorem od_isN {K : PySem.W.Frag} {ct : Ct} : OpD K ct (fun x y H Q => y = .non ∧ Q (.bl (decide (x = .non))) H) (opIsN true) := fun W n F H as cs x y d e Q ok hx hy h => by
  unfold opIsN at h
  split at h
  · cases hx
    cases hy
    exact ⟨rfl, end_ok ok (.bl _) h⟩
  · rename_i q
    cases hy
    refine ⟨rfl, ?_⟩
    rw [isN_v hx fun z => q z]
    exact end_ok ok (.bl _) h
  · exact False.elim h
theorem od_notN {K : PySem.W.Frag} {ct : Ct} : OpD K ct (fun x y H Q => y = .non ∧ Q (.bl (!decide (x = .non))) H) (opIsN false) := fun W n F H as cs x y d e Q ok hx hy h => by
  unfold opIsN at h
  split at h
  · cases hx
    cases hy
    exact ⟨rfl, end_ok ok (.bl _) h⟩
  · rename_i q
    cases hy
    refine ⟨rfl, ?_⟩
    rw [isN_v hx fun z => q z]
    exact end_ok ok (.bl _) h
  · exact False.elim h
/-! #### == of data -/
mutual
def pyG (r : Nat → Option PyData) : D → Option PyData
  | .non => some .none
  | .bl b => some (.bool b)
  | .int i => some (.int i)
  | .str x => some (.str x)
  | .tup xs => (pyGL r xs).map .tuple
  | .lst xs => (pyGL r xs).map .list
  | .ref i => r i
  | .dic => none
  | .scr _ => none
def pyGL (r : Nat → Option PyData) : List D → Option (List PyData)
  | [] => some []
  | d :: ds => match pyG r d, pyGL r ds with
    | some p, some ps => some (p :: ps)
    | _, _ => none
end
def pyN (cs : Cs) : Nat → Nat → Option PyData
  | 0, _ => none
  | n + 1, i => match cs[i]? with
    | some xs => (pyGL (pyN cs n) xs).map .list
    | none => none
def py (cs : Cs) (d : D) : Option PyData := pyG (pyN cs 3) d
section
variable {K : PySem.W.Frag} {F H : Hp} {as : List Addr} {cs : Cs}
mutual
theorem pyG_dp (ok : Ok K F H as cs) {r : Nat → Option PyData} (hr : ∀ i p a, r i = some p → as[i]? = some a → Dp K H (.ref a) p) : ∀ {v : V} {d : D} {p : PyData}, Dv K F as v d → pyG r d = some p → Dp K H v p
  | _, _, _, .non, e => by
    cases e
    exact .non
  | _, _, _, .bl b, e => by
    cases e
    exact .bl b
  | _, _, _, .int i, e => by
    cases e
    exact .int i
  | _, _, _, .str x, e => by
    cases e
    exact .str x
  | _, _, p, .tup (ds := ds) h l, e => by
    have e2 : (pyGL r ds).map PyData.tuple = some p := e
    cases q : pyGL r ds with
    | none =>
      rw [q] at e2
      cases e2
    | some ps =>
      rw [q] at e2
      cases e2
      exact .tup (SqT.of (ok.fh _ _ h)) (pyGL_dp ok hr l q)
  | _, _, p, .lst (ds := ds) h l, e => by
    have e2 : (pyGL r ds).map PyData.list = some p := e
    cases q : pyGL r ds with
    | none =>
      rw [q] at e2
      cases e2
    | some ps =>
      rw [q] at e2
      cases e2
      exact .lst (SqL.of (ok.fh _ _ h)) (pyGL_dp ok hr l q)
  | _, _, _, .ref h, e => hr _ _ _ e h
  | _, _, _, .dic _, e => by cases e
  | _, _, _, .scr _, e => by cases e
theorem pyGL_dp (ok : Ok K F H as cs) {r : Nat → Option PyData} (hr : ∀ i p a, r i = some p → as[i]? = some a → Dp K H (.ref a) p) : ∀ {vs : List V} {ds : List D} {ps : List PyData}, DvL K F as vs ds → pyGL r ds = some ps → DpAll K H vs ps
  | _, _, _, .nil, e => by
    cases e
    exact .nil
  | _, _, ps, .cons (d := d) (ds := ds) h t, e => by
    have e2 : (match pyG r d, pyGL r ds with
      | some p, some ps => some (p :: ps)
      | _, _ => none) = some ps := e
    split at e2
    · rename_i p qs e3 e4
      cases e2
      exact .cons (pyG_dp ok hr h e3) (pyGL_dp ok hr t e4)
    · cases e2
end
theorem pyN_dp (ok : Ok K F H as cs) : ∀ (n i : Nat) (p : PyData) (a : Addr), pyN cs n i = some p → as[i]? = some a → Dp K H (.ref a) p
  | 0, _, _, _, e, _ => by cases e
  | n + 1, i, p, a, e, ha => by
    have e2 : (match cs[i]? with
      | some xs => (pyGL (pyN cs n) xs).map PyData.list
      | none => none) = some p := e
    cases hc : cs[i]? with
    | none =>
      rw [hc] at e2
      cases e2
    | some xs =>
      rw [hc] at e2
      have e3 : (pyGL (pyN cs n) xs).map PyData.list = some p := e2
      obtain ⟨_, ys, h1, h2⟩ := ok.cell i a xs ha hc
      cases q : pyGL (pyN cs n) xs with
      | none =>
        rw [q] at e3
        cases e3
      | some ps =>
        rw [q] at e3
        cases e3
        exact .lst (SqL.of h1) (pyGL_dp ok (pyN_dp ok n) h2 q)
theorem py_dp (ok : Ok K F H as cs) {v : V} {d : D} {p : PyData} (h : Dv K F as v d) (e : py cs d = some p) : Dp K H v p := pyG_dp ok (pyN_dp ok 3) h e
end
def opEq (b : Bool) : D → D → M D := fun d e cs => match py cs d, py cs e with
  | some p, some q => if (SeqAt.shaped p && SeqAt.shaped q) = true then .ok (.bl (if b = true then PyData.eqv p q else !PyData.eqv p q)) cs else .no
  | _, _ => .no
theorem od_eq {K : PySem.W.Frag} {ct : Ct} : OpD K ct (rEqD K) (opEq true) := fun W n F H as cs x y d e Q ok hx hy h => by
  unfold opEq at h
  split at h
  · split at h
    · rename_i p q e1 e2 hs
      obtain ⟨s1, s2⟩ := Bool.and_eq_true_iff.mp hs
      exact ⟨p, q, py_dp ok hx e1, py_dp ok hy e2, s1, s2, end_ok ok (.bl _) h⟩
    · exact False.elim h
  · exact False.elim h
theorem od_ne {K : PySem.W.Frag} {ct : Ct} : OpD K ct (rNeD K) (opEq false) := fun W n F H as cs x y d e Q ok hx hy h => by
  unfold opEq at h
  split at h
  · split at h
    · rename_i p q e1 e2 hs
      obtain ⟨s1, s2⟩ := Bool.and_eq_true_iff.mp hs
      exact ⟨p, q, py_dp ok hx e1, py_dp ok hy e2, s1, s2, end_ok ok (.bl _) h⟩
    · exact False.elim h
  · exact False.elim h
/-! #### a[i] -/
def opIx : D → D → M D
  | .tup xs, .int i => M.ofO (atI xs i)
  | .str z, .int i => if szOk z.length = true then (match atI z.cps.toList i with
    | some c => M.ret (.str ⟨#[c]⟩)
    | none => M.no) else M.no
  | a, .int i => fun cs => match seqOf cs a with
    | some xs => M.ofO (atI xs i) cs
    | none => .no
  | _, _ => M.no
theorem atI_dv {K : PySem.W.Frag} {F : Hp} {as : List Addr} {vs : List V} {ds : List D} {i : Int} {d : D} (h : DvL K F as vs ds) (e : atI ds i = some d) : ∃ v, atI vs i = some v ∧ Dv K F as v d := by
  unfold atI at e ⊢
  rw [h.length]
  cases q : ixN ds.length i with
  | none =>
    rw [q] at e
    cases e
  | some j =>
    rw [q] at e
    exact h.get e
theorem od_ix {K : PySem.W.Frag} {ct : Ct} : OpD K ct (rIx K) opIx := fun W n F H as cs x y d e Q ok hx hy h => by
  unfold opIx at h
  split at h
  · rename_i xs i
    cases hy
    cases hx with
    | tup t l =>
      cases q : atI xs i with
      | none =>
        rw [q] at h
        exact False.elim h
      | some z =>
        rw [q] at h
        obtain ⟨v, h1, h2⟩ := atI_dv l q
        exact .inr (.inl ⟨_, _, i, v, rfl, rfl, SqT.of (ok.fh _ _ t), h1, end_ok ok h2 h⟩)
  · split at h
    · rename_i z i q
      cases hx
      cases hy
      cases e1 : atI z.cps.toList i with
      | none =>
        rw [e1] at h
        exact False.elim h
      | some c =>
        rw [e1] at h
        exact .inr (.inr ⟨z, i, c, rfl, rfl, szOk_le q, e1, end_ok ok (.str _) h⟩)
    · exact False.elim h
  · rename_i i _ _
    dsimp only at h
    split at h
    · rename_i xs e1
      cases hy
      obtain ⟨a, ys, rfl, h1, l⟩ := seq_at ok hx e1
      cases q : atI xs i with
      | none =>
        rw [q] at h
        exact False.elim h
      | some z =>
        rw [q] at h
        obtain ⟨v, h2, h3⟩ := atI_dv l q
        exact .inl ⟨a, ys, i, v, rfl, rfl, h1, h2, end_ok ok h3 h⟩
    · exact False.elim h
  · exact False.elim h
/-! #### in, not in: a letter in a text; a text in a tuple of texts; an int in a list of ints -/
def opNotInS : D → D → M D
  | .str c, .str z => match c.cps.toList with
    | [k] => M.ret (.bl (!decide (k ∈ z.cps.toList)))
    | _ => M.no
  | _, _ => M.no
theorem od_notInS {K : PySem.W.Frag} {ct : Ct} : OpD K ct (fun x y H Q => ∃ (c : Nat) (z : Str), x = .str ⟨#[c]⟩ ∧ y = .str z ∧ Q (.bl (!decide (c ∈ z.cps.toList))) H) opNotInS := fun W n F H as cs x y d e Q ok hx hy h => by
  unfold opNotInS at h
  split at h
  · rename_i c z
    obtain ⟨⟨l⟩⟩ := c
    match l, h with
    | [], h => exact False.elim h
    | _ :: _ :: _, h => exact False.elim h
    | [k], h =>
      cases hx
      cases hy
      exact ⟨k, z, rfl, rfl, end_ok ok (.bl _) h⟩
  · exact False.elim h
def flatV? : D → Option V
  | .non => some .non
  | .bl b => some (.bl b)
  | .int i => some (.int i)
  | .str x => some (.str x)
  | _ => none
def flatVs? : List D → Option (List V)
  | [] => some []
  | d :: ds => match flatV? d, flatVs? ds with
    | some v, some vs => some (v :: vs)
    | _, _ => none
theorem flatV_eq {K : PySem.W.Frag} {F : Hp} {as : List Addr} {x w : V} {d : D} (h : Dv K F as x d) (e : flatV? d = some w) : x = w ∧ flatV w = true := by
  cases h <;> first | (cases e; exact ⟨rfl, rfl⟩) | cases e
theorem flatVs_eq {K : PySem.W.Frag} {F : Hp} {as : List Addr} : ∀ {xs ws : List V} {ds : List D}, DvL K F as xs ds → flatVs? ds = some ws → xs = ws ∧ ws.all flatV = true
  | _, _, _, .nil, e => by
    cases e
    exact ⟨rfl, rfl⟩
  | _, ws, _, .cons (d := d) (ds := ds) h t, e => by
    have e2 : (match flatV? d, flatVs? ds with
      | some v, some vs => some (v :: vs)
      | _, _ => none) = some ws := e
    split at e2
    · rename_i v vs e3 e4
      cases e2
      obtain ⟨a1, a2⟩ := flatV_eq h e3
      obtain ⟨b1, b2⟩ := flatVs_eq t e4
      subst a1 b1
      refine ⟨rfl, ?_⟩
      rw [List.all_cons, a2, b2]
      rfl
    · cases e2
def itsOf (cs : Cs) : D → Option (List D)
  | .tup xs => some xs
  | d => seqOf cs d
theorem its_at {K : PySem.W.Frag} {F H : Hp} {as : List Addr} {cs : Cs} {v : V} {d : D} {xs : List D} (ok : Ok K F H as cs) (h : Dv K F as v d) (e : itsOf cs d = some xs) : ∃ a ys, v = .ref a ∧ (SqL K H a ys ∨ SqT K H a ys) ∧ DvL K F as ys xs := by
  cases d with
  | tup zs =>
    cases e
    cases h with
    | tup t l => exact ⟨_, _, rfl, .inr (SqT.of (ok.fh _ _ t)), l⟩
  | _ =>
    obtain ⟨a, ys, h1, h2, h3⟩ := seq_at ok h e
    exact ⟨a, ys, h1, .inl h2, h3⟩
def opIn (neg : Bool) : D → D → M D := fun d e cs => match flatV? d, itsOf cs e with
  | some v, some xs => (match flatVs? xs with
    | some ws => .ok (.bl (if neg = true then !inV v ws else inV v ws)) cs
    | none => .no)
  | _, _ => .no
theorem od_in {K : PySem.W.Frag} {ct : Ct} (neg : Bool) : OpD K ct (rIn K neg) (opIn neg) := fun W n F H as cs x y d e Q ok hx hy h => by
  unfold opIn at h
  split at h
  · split at h
    · rename_i v xs e1 e2 _ ws e3
      obtain ⟨rfl, f1⟩ := flatV_eq hx e1
      obtain ⟨a, ys, rfl, h1, l⟩ := its_at ok hy e2
      obtain ⟨rfl, f2⟩ := flatVs_eq l e3
      exact ⟨a, _, rfl, h1, f1, f2, end_ok ok (.bl _) h⟩
    · exact False.elim h
  · exact False.elim h
/-! ### tests -/
def bVal (a : En → M D) : En → M Bool := fun env => M.bnd (a env) fun d => match d with
  | .bl b => M.ret b
  | _ => M.no
def bAnd (a b : En → M Bool) : En → M Bool := fun env => M.bnd (a env) fun k => if k = true then b env else M.ret false
def bOr (a b : En → M Bool) : En → M Bool := fun env => M.bnd (a env) fun k => if k = true then M.ret true else b env
def bNot (a : En → M Bool) : En → M Bool := fun env => M.bnd (a env) fun k => M.ret (!k)
section
variable {X : Cx} {ct : Ct} {W : WX} {a b : Expr} {rest : List Expr} {ma mb : En → M D} {ba bb : En → M Bool} {pos : Pos}
theorem bv_of {K : PySem.W.Frag} {σ : L2.St} {H : Hp} {Q : Bool → Hp → Prop} (h : tT K ct W (bVal ma) σ H Q) : tD K ct W ma σ H fun x H1 => ∃ k, x = .bl k ∧ Q k H1 := by
  obtain ⟨F, as, env, cs, ok, sl, h⟩ := h
  refine ⟨F, as, env, cs, ok, sl, out_imp (out_bnd h) fun d cs1 F1 H1 as1 g ok1 h1 v hv => ?_⟩
  split at h1
  · cases hv
    exact ⟨_, rfl, out_ok ok1 h1⟩
  · exact False.elim h1
theorem gt_val (h : PE X a (tD X.K ct W ma)) (he : ∀ whole, isTrue a X.env whole = (do let v ← whole; standAt a.pos; holding [v] (truthy v)) := by intro _; rfl) : PT X a (tT X.K ct W (bVal ma)) := PT.imp (pt_val h he) fun _ _ _ h => bv_of h
theorem gt_cmp {op : CmpOp} {r : R2} {f : D → D → M D} (ho : OpR X (compareOp op) r) (od : OpD X.K ct r f) (ha : PE X a (tD X.K ct W ma)) (hb : PE X b (tD X.K ct W mb)) (hm : behindInMarks op b = false) : PT X (.Compare a [op] [b] pos) (tT X.K ct W (bVal (xBin f ma mb))) :=
  PT.imp (pt_cmpR ho ha hb hm) fun _ _ _ h => tOp_of od (bv_of h)
theorem gt_chain {op op' : CmpOp} {r r' : R2} {f g : D → D → M D} {c : Expr} {mc : En → M D} (ho : OpR X (compareOp op) r) (od : OpD X.K ct r f) (ho' : OpR X (compareOp op') r') (od' : OpD X.K ct r' g) (ha : PE X a (tD X.K ct W ma)) (hb : PE X b (tD X.K ct W mb)) (hc : PE X c (tD X.K ct W mc))
    (hm : lastMarks [op, op'] [b, c] = false := by with_unfolding_all rfl) : PT X (.Compare a [op, op'] [b, c] pos) (tT X.K ct W (bVal (xChain f g ma mb mc))) := PT.imp (pt_chain ho ho' ha hb hc hm) fun _ _ _ h => tChain_of od od' (bv_of h)
theorem gw_and1 (h : PT X a (tT X.K ct W ba)) : PW X (.BoolOp .And [a] pos) (tT X.K ct W ba) := pw_and1 h
theorem gw_or1 (h : PT X a (tT X.K ct W ba)) : PW X (.BoolOp .Or [a] pos) (tT X.K ct W ba) := pw_or1 h
theorem PW.imp {e : Expr} {t t' : TT} (h : PW X e t) (k : ∀ σ H Q, t' σ H Q → t σ H Q) : PW X e t' := ⟨fun wh pins s σ H Q I w => h.run wh pins s σ H Q I (k σ H Q w)⟩
theorem and_of {K : PySem.W.Frag} {σ : L2.St} {H : Hp} {Q : Bool → Hp → Prop} (h : tT K ct W (bAnd ba bb) σ H Q) : tAnd (tT K ct W ba) (tT K ct W bb) σ H Q := by
  obtain ⟨F, as, env, cs, ok, sl, h⟩ := h
  refine ⟨F, as, env, cs, ok, sl, out_imp (out_bnd h) fun k cs1 F1 H1 as1 g ok1 h1 => ?_⟩
  cases k with
  | true => exact ⟨F1, as1, env, cs1, ok1, sl.gro g, h1⟩
  | false => exact out_ok ok1 h1
theorem or_of {K : PySem.W.Frag} {σ : L2.St} {H : Hp} {Q : Bool → Hp → Prop} (h : tT K ct W (bOr ba bb) σ H Q) : tOr (tT K ct W ba) (tT K ct W bb) σ H Q := by
  obtain ⟨F, as, env, cs, ok, sl, h⟩ := h
  refine ⟨F, as, env, cs, ok, sl, out_imp (out_bnd h) fun k cs1 F1 H1 as1 g ok1 h1 => ?_⟩
  cases k with
  | true => exact out_ok ok1 h1
  | false => exact ⟨F1, as1, env, cs1, ok1, sl.gro g, h1⟩
theorem gw_and (ha : PT X a (tT X.K ct W ba)) (hb : PW X (.BoolOp .And (b :: rest) pos) (tT X.K ct W bb)) : PW X (.BoolOp .And (a :: b :: rest) pos) (tT X.K ct W (bAnd ba bb)) := PW.imp (pw_and ha hb) fun _ _ _ => and_of
theorem gw_or (ha : PT X a (tT X.K ct W ba)) (hb : PW X (.BoolOp .Or (b :: rest) pos) (tT X.K ct W bb)) : PW X (.BoolOp .Or (a :: b :: rest) pos) (tT X.K ct W (bOr ba bb)) := PW.imp (pw_or ha hb) fun _ _ _ => or_of
theorem gt_not (ha : PT X a (tT X.K ct W ba)) : PT X (.UnaryOp .Not a pos) (tT X.K ct W (bNot ba)) := PT.imp (pt_not ha) (by
  rintro σ H Q ⟨F, as, env, cs, ok, sl, h⟩
  exact ⟨F, as, env, cs, ok, sl, out_imp (out_bnd h) fun k cs1 F1 H1 as1 g ok1 h1 => out_ok ok1 h1⟩)
/-! as values -/
def xAnd (a b : En → M D) : En → M D := fun env => M.bnd (a env) fun d => match d with
  | .bl true => b env
  | .bl false => M.ret (.bl false)
  | _ => M.no
def xOr (a b : En → M D) : En → M D := fun env => M.bnd (a env) fun d => match d with
  | .bl true => M.ret (.bl true)
  | .bl false => b env
  | _ => M.no
def xNot (a : En → M D) : En → M D := fun env => M.bnd (a env) fun d => match d with
  | .bl k => M.ret (.bl (!k))
  | _ => M.no
theorem ge_one {op} (h : PE X a (tD X.K ct W ma)) : PE X (.BoolOp op [a] pos) (tD X.K ct W ma) := pe_one h
theorem ge_and (ha : PE X a (tD X.K ct W ma)) (hb : PE X (.BoolOp .And (b :: rest) pos) (tD X.K ct W mb)) : PE X (.BoolOp .And (a :: b :: rest) pos) (tD X.K ct W (xAnd ma mb)) := PE.imp (pe_and ha hb) (by
  rintro σ H Q ⟨F, as, env, cs, ok, sl, h⟩
  refine ⟨F, as, env, cs, ok, sl, out_imp (out_bnd h) fun d cs1 F1 H1 as1 g ok1 h1 v hv => ?_⟩
  split at h1
  · cases hv
    exact ⟨true, rfl, F1, as1, env, cs1, ok1, sl.gro g, h1⟩
  · cases hv
    exact ⟨false, rfl, end_ok ok1 (.bl false) h1⟩
  · exact False.elim h1)
theorem ge_or (ha : PE X a (tD X.K ct W ma)) (hb : PE X (.BoolOp .Or (b :: rest) pos) (tD X.K ct W mb)) : PE X (.BoolOp .Or (a :: b :: rest) pos) (tD X.K ct W (xOr ma mb)) := PE.imp (pe_or ha hb) (by
  rintro σ H Q ⟨F, as, env, cs, ok, sl, h⟩
  refine ⟨F, as, env, cs, ok, sl, out_imp (out_bnd h) fun d cs1 F1 H1 as1 g ok1 h1 v hv => ?_⟩
  split at h1
  · cases hv
    exact ⟨true, rfl, end_ok ok1 (.bl true) h1⟩
  · cases hv
    exact ⟨false, rfl, F1, as1, env, cs1, ok1, sl.gro g, h1⟩
  · exact False.elim h1)
theorem ge_not (ha : PE X a (tD X.K ct W ma)) : PE X (.UnaryOp .Not a pos) (tD X.K ct W (xNot ma)) := PE.imp (pe_not ha) (by
  rintro σ H Q ⟨F, as, env, cs, ok, sl, h⟩
  refine ⟨F, as, env, cs, ok, sl, out_imp (out_bnd h) fun d cs1 F1 H1 as1 g ok1 h1 v hv => ?_⟩
  split at h1
  · cases hv
    exact ⟨_, rfl, end_ok ok1 (.bl _) h1⟩
  · exact False.elim h1)
end
/-! ### argument lists, displays, calls of built-ins -/
def aNil : En → M (List D) := fun _ => M.ret []
def aCons (a : En → M D) (r : En → M (List D)) : En → M (List D) := fun env => M.bnd (a env) fun d => M.bnd (r env) fun ds => M.ret (d :: ds)
def xTup (a : En → M (List D)) : En → M D := fun env => M.bnd (a env) fun ds => if szOk ds.length = true then M.ret (.tup ds) else M.no
def xLst (c : Bool) (a : En → M (List D)) : En → M D := fun env => M.bnd (a env) fun ds => if szOk ds.length = true then mkL c ds else M.no
def xCall (g : List D → M D) (a : En → M (List D)) : En → M D := fun env => M.bnd (a env) g
def CallD (K : PySem.W.Frag) (ct : Ct) (r : List V → Hp → VK → Prop) (g : List D → M D) : Prop :=
  ∀ (W : WX) (n : Nat) (F H : Hp) (as : List Addr) (cs : Cs) (xs : List V) (ds : List D) (Q : VK), Ok K F H as cs → DvL K F as xs ds → out K ct W n F H as (g ds cs) (oD K Q) → r xs H Q
section
variable {X : Cx} {ct : Ct} {W : WX} {a e : Expr} {es : List Expr} {ma : En → M D} {mas : En → M (List D)} {pos : Pos}
theorem ga_nil : PA X [] (tA X.K ct W aNil) := PA.imp pa_nil (by
  rintro σ H Q ⟨F, as, env, cs, ok, sl, h⟩
  exact out_ok ok h _ .nil)
theorem ga_cons (ha : PE X e (tD X.K ct W ma)) (hr : PA X es (tA X.K ct W mas)) (hs : starEach (e :: es) X.env = (false, eval e X.env) :: starEach es X.env := by rfl) : PA X (e :: es) (tA X.K ct W (aCons ma mas)) := PA.imp (pa_cons ha hr hs) (by
  rintro σ H Q ⟨F, as, env, cs, ok, sl, h⟩
  refine ⟨F, as, env, cs, ok, sl, out_imp (out_bnd h) fun d cs1 F1 H1 as1 g ok1 h1 v hv => ?_⟩
  refine ⟨F1, as1, env, cs1, ok1, sl.gro g, out_imp (out_bnd h1) fun ds cs2 F2 H2 as2 g2 ok2 h2 vs hvs => ?_⟩
  exact out_ok ok2 h2 _ (.cons (hv.gro g2) hvs))
theorem ge_tup {k} (h : PA X es (tA X.K ct W mas)) : PE X (.Tuple es k pos) (tD X.K ct W (xTup mas)) := PE.imp (pe_tup h) (by
  rintro σ H Q ⟨F, as, env, cs, ok, sl, h⟩
  refine ⟨F, as, env, cs, ok, sl, out_imp (out_bnd h) fun ds cs1 F1 H1 as1 g ok1 h1 vs hvs => ?_⟩
  split at h1
  · rename_i q
    exact ⟨by rw [hvs.length]; exact szOk_le q, new_tup ok1 hvs h1⟩
  · exact False.elim h1)
theorem ge_lst (c : Bool) (h : PA X es (tA X.K ct W mas)) : PE X (.List es pos) (tD X.K ct W (xLst c mas)) := PE.imp (pe_lst h) (by
  rintro σ H Q ⟨F, as, env, cs, ok, sl, h⟩
  refine ⟨F, as, env, cs, ok, sl, out_imp (out_bnd h) fun ds cs1 F1 H1 as1 g ok1 h1 vs hvs => ?_⟩
  split at h1
  · rename_i q
    exact ⟨by rw [hvs.length]; exact szOk_le q, new_mk ok1 hvs h1⟩
  · exact False.elim h1)
theorem tCB_of {K : PySem.W.Frag} {r : List V → Hp → VK → Prop} {g : List D → M D} (cd : CallD K ct r g) {σ : L2.St} {H : Hp} {Q : VK} (h : tD K ct W (xCall g mas) σ H Q) : tCB r (tA K ct W mas) σ H Q := by
  obtain ⟨F, as, env, cs, ok, sl, h⟩ := h
  exact ⟨F, as, env, cs, ok, sl, out_imp (out_bnd h) fun ds cs1 F1 H1 as1 g ok1 h1 vs hvs => cd W _ F1 H1 as1 cs1 vs ds Q ok1 hvs h1⟩
variable {x : Str} {p : Pos} {id T : String} {r : List V → Hp → VK → Prop} {g : List D → M D}
theorem ge_callB (hc : CallR X (.builtin id) r) (cd : CallD X.K ct r g) (hg : Gl X x) (hm : X.mg x = none) (hv : bootBuiltins x = some (.builtin id)) (ha : PA X (e :: es) (tA X.K ct W mas)) (hn : x ≠ "__name__" := by decide) (hdb : (x == ("__debug__" : Str)) = false := by decide)
    (he : starEach (e :: es) X.env = (false, eval e X.env) :: starEach es X.env := by rfl) (hpl : (backTo pos (starEach es X.env)).any (·.1) = false := by rfl) : PE X (.Call (.Name x p) (e :: es) [] pos) (tD X.K ct W (xCall g mas)) :=
  PE.imp (pe_callB hc hg hm hv ha hn hdb he hpl) fun _ _ _ => tCB_of cd
theorem ge_callTy (hc : CallR X (.type T) r) (cd : CallD X.K ct r g) (hg : Gl X x) (hm : X.mg x = none) (hv : bootBuiltins x = some (.type T)) (ha : PA X (e :: es) (tA X.K ct W mas)) (hn : x ≠ "__name__" := by decide) (hdb : (x == ("__debug__" : Str)) = false := by decide)
    (he : starEach (e :: es) X.env = (false, eval e X.env) :: starEach es X.env := by rfl) (hpl : (backTo pos (starEach es X.env)).any (·.1) = false := by rfl) : PE X (.Call (.Name x p) (e :: es) [] pos) (tD X.K ct W (xCall g mas)) :=
  PE.imp (pe_callTy hc hg hm hv ha hn hdb he hpl) fun _ _ _ => tCB_of cd
end
end G
/-! G2: built-ins, slices, what is walked, comprehensions. -/
namespace G
open L2 PySem PySem.Spec PyProof.Rows
/-! ### len -/
def opLen : List D → M D
  | [.str x] => if szOk x.length = true then M.ret (.int x.length) else M.no
  | [d] => fun cs => match itsOf cs d with
    | some xs => .ok (.int xs.length) cs
    | none => .no
  | _ => M.no
section
variable {K : PySem.W.Frag} {ct : Ct}
theorem dvl1 {F : Hp} {as : List Addr} {vs : List V} {d : D} (h : DvL K F as vs [d]) : ∃ v, vs = [v] ∧ Dv K F as v d := by
  cases h with
  | cons h1 h2 =>
    cases h2
    exact ⟨_, rfl, h1⟩
theorem dvl2 {F : Hp} {as : List Addr} {vs : List V} {d e : D} (h : DvL K F as vs [d, e]) : ∃ v u, vs = [v, u] ∧ Dv K F as v d ∧ Dv K F as u e := by
  cases h with
  | cons h1 h2 =>
    obtain ⟨u, rfl, h3⟩ := dvl1 h2
    exact ⟨_, u, rfl, h1, h3⟩
theorem dvl3 {F : Hp} {as : List Addr} {vs : List V} {d e f : D} (h : DvL K F as vs [d, e, f]) : ∃ v u w, vs = [v, u, w] ∧ Dv K F as v d ∧ Dv K F as u e ∧ Dv K F as w f := by
  cases h with
  | cons h1 h2 =>
    obtain ⟨u, w, rfl, h3, h4⟩ := dvl2 h2
    exact ⟨_, u, w, rfl, h1, h3, h4⟩
theorem cd_len : CallD K ct (fun xs H Q => ∃ x n, xs = [x] ∧ LenV K x H n ∧ Q (.int n) H) opLen := fun W n F H as cs vs ds Q ok hv h => by
  unfold opLen at h
  split at h
  · split at h
    · rename_i x q
      obtain ⟨v, rfl, h1⟩ := dvl1 hv
      cases h1
      exact ⟨_, x.length, rfl, ⟨szOk_le q, rfl⟩, end_ok ok (.int _) h⟩
    · exact False.elim h
  · obtain ⟨v, rfl, h1⟩ := dvl1 hv
    try dsimp only at h
    split at h
    · rename_i xs e
      obtain ⟨a, ys, rfl, h2, l⟩ := its_at ok h1 e
      refine ⟨_, ys.length, rfl, ?_, by rw [l.length]; exact end_ok ok (.int _) h⟩
      rcases h2 with h2 | h2
      · exact .inl ⟨ys, h2, rfl⟩
      · exact .inr ⟨ys, h2, rfl⟩
    · exact False.elim h
  · exact False.elim h
/-! ### max, min, abs, int -/
def opMax2 : List D → M D
  | [.int i, .int j] => M.ret (.int (if j > i then j else i))
  | _ => M.no
def opMin2 : List D → M D
  | [.int i, .int j] => M.ret (.int (if j < i then j else i))
  | _ => M.no
def opMax3 : List D → M D
  | [.int a, .int b, .int c] => M.ret (.int (if b > a then (if c > b then c else b) else (if c > a then c else a)))
  | _ => M.no
def opAbs : List D → M D
  | [.int i] => M.ret (.int (if i < 0 then -i else i))
  | _ => M.no
def opInt : List D → M D
  | [.int i] => M.ret (.int i)
  | [.bl k] => M.ret (.int (if k then 1 else 0))
  | _ => M.no
theorem cd_max2 : CallD K ct (fun xs H Q => ∃ i j, xs = [.int i, .int j] ∧ Q (.int (if j > i then j else i)) H) opMax2 := fun W n F H as cs vs ds Q ok hv h => by
  unfold opMax2 at h
  split at h
  · obtain ⟨_, _, rfl, h1, h2⟩ := dvl2 hv
    cases h1
    cases h2
    exact ⟨_, _, rfl, end_ok ok (.int _) h⟩
  · exact False.elim h
theorem cd_min2 : CallD K ct (fun xs H Q => ∃ i j, xs = [.int i, .int j] ∧ Q (.int (if j < i then j else i)) H) opMin2 := fun W n F H as cs vs ds Q ok hv h => by
  unfold opMin2 at h
  split at h
  · obtain ⟨_, _, rfl, h1, h2⟩ := dvl2 hv
    cases h1
    cases h2
    exact ⟨_, _, rfl, end_ok ok (.int _) h⟩
  · exact False.elim h
theorem cr_max3 {X : Cx} (hc : X.calm = true) : CallR X (.builtin "max") (fun xs H Q => ∃ a b c, xs = [.int a, .int b, .int c] ∧ Q (.int (if b > a then (if c > b then c else b) else (if c > a then c else a))) H) := by
  intro pins s σ H xs us Q I r h
  obtain ⟨a, b, c, rfl, q⟩ := h
  cases r with
  | cons r1 r =>
    obtain ⟨u2, u3, rfl, ⟨t2, rfl⟩, ⟨t3, rfl⟩⟩ := vals2 r
    obtain ⟨t1, rfl⟩ := r1
    refine PySem.max_three_ints (I.ok.hd hc) fun h' tk k => ⟨_, H, I.kept k, ?_, q⟩
    by_cases hba : b > a <;> by_cases hc1 : c > b <;> by_cases hc2 : c > a <;> simp only [hba, hc1, hc2, if_true, if_false] <;> exact ⟨_, rfl⟩
theorem cd_max3 : CallD K ct (fun xs H Q => ∃ a b c, xs = [.int a, .int b, .int c] ∧ Q (.int (if b > a then (if c > b then c else b) else (if c > a then c else a))) H) opMax3 := fun W n F H as cs vs ds Q ok hv h => by
  unfold opMax3 at h
  split at h
  · obtain ⟨_, _, _, rfl, h1, h2, h3⟩ := dvl3 hv
    cases h1
    cases h2
    cases h3
    exact ⟨_, _, _, rfl, end_ok ok (.int _) h⟩
  · exact False.elim h
theorem cd_abs : CallD K ct (fun xs H Q => ∃ i, xs = [.int i] ∧ Q (.int (if i < 0 then -i else i)) H) opAbs := fun W n F H as cs vs ds Q ok hv h => by
  unfold opAbs at h
  split at h
  · obtain ⟨_, rfl, h1⟩ := dvl1 hv
    cases h1
    exact ⟨_, rfl, end_ok ok (.int _) h⟩
  · exact False.elim h
theorem cd_int : CallD K ct (fun xs H Q => (∃ i, xs = [.int i] ∧ Q (.int i) H) ∨ ∃ k, xs = [.bl k] ∧ Q (.int (if k then 1 else 0)) H) opInt := fun W n F H as cs vs ds Q ok hv h => by
  unfold opInt at h
  split at h
  · obtain ⟨_, rfl, h1⟩ := dvl1 hv
    cases h1
    exact .inl ⟨_, rfl, end_ok ok (.int _) h⟩
  · obtain ⟨_, rfl, h1⟩ := dvl1 hv
    cases h1
    exact .inr ⟨_, rfl, end_ok ok (.int _) h⟩
  · exact False.elim h
/-! ### list(xs), tuple(xs) -/
def opList (c : Bool) : List D → M D
  | [d] => fun cs => match itsOf cs d with
    | some xs => mkL c xs cs
    | none => .no
  | _ => M.no
def opTuple : List D → M D
  | [d] => fun cs => match seqOf cs d with
    | some xs => .ok (.tup xs) cs
    | none => .no
  | _ => M.no
theorem cd_list (c : Bool) : CallD K ct (fun xs H Q => ∃ p ys, xs = [.ref p] ∧ (SqL K H p ys ∨ SqT K H p ys) ∧ ∀ l, H l = none → Q (.ref l) (upd H l (.lst ys))) (opList c) := fun W n F H as cs vs ds Q ok hv h => by
  unfold opList at h
  split at h
  · obtain ⟨v, rfl, h1⟩ := dvl1 hv
    try dsimp only at h
    split at h
    · rename_i xs e
      obtain ⟨a, ys, rfl, h2, l⟩ := its_at ok h1 e
      exact ⟨a, ys, rfl, h2, new_mk ok l h⟩
    · exact False.elim h
  · exact False.elim h
theorem cd_tuple : CallD K ct (fun xs H Q => ∃ p ys, xs = [.ref p] ∧ ((SqL K H p ys ∧ ∀ l, H l = none → Q (.ref l) (upd H l (.tup ys))) ∨ (SqT K H p ys ∧ Q (.ref p) H))) opTuple := fun W n F H as cs vs ds Q ok hv h => by
  unfold opTuple at h
  split at h
  · obtain ⟨v, rfl, h1⟩ := dvl1 hv
    try dsimp only at h
    split at h
    · rename_i xs e
      obtain ⟨a, ys, rfl, h2, l⟩ := seq_at ok h1 e
      exact ⟨a, ys, rfl, .inl ⟨h2, new_tup ok l h⟩⟩
    · exact False.elim h
  · exact False.elim h
/-! ### sum, all -/
def intsOf : List D → Option (List Int)
  | [] => some []
  | .int i :: r => (intsOf r).map (i :: ·)
  | _ => none
def blsOf : List D → Option (List Bool)
  | [] => some []
  | .bl i :: r => (blsOf r).map (i :: ·)
  | _ => none
theorem intsOf_eq {F : Hp} {as : List Addr} : ∀ {vs : List V} {ds : List D} {ns : List Int}, DvL K F as vs ds → intsOf ds = some ns → vs = ns.map V.int
  | _, _, _, .nil, e => by
    cases e
    rfl
  | _, _, ns, .cons (d := d) (ds := ds) h t, e => by
    cases h with
    | int i =>
      have e2 : (intsOf ds).map (i :: ·) = some ns := e
      cases q : intsOf ds with
      | none =>
        rw [q] at e2
        cases e2
      | some r =>
        rw [q] at e2
        cases e2
        rw [intsOf_eq t q]
        rfl
    | _ => cases e
theorem blsOf_eq {F : Hp} {as : List Addr} : ∀ {vs : List V} {ds : List D} {ns : List Bool}, DvL K F as vs ds → blsOf ds = some ns → vs = ns.map V.bl
  | _, _, _, .nil, e => by
    cases e
    rfl
  | _, _, ns, .cons (d := d) (ds := ds) h t, e => by
    cases h with
    | bl i =>
      have e2 : (blsOf ds).map (i :: ·) = some ns := e
      cases q : blsOf ds with
      | none =>
        rw [q] at e2
        cases e2
      | some r =>
        rw [q] at e2
        cases e2
        rw [blsOf_eq t q]
        rfl
    | _ => cases e
def opSum : List D → M D
  | [d] => fun cs => match (seqOf cs d).bind intsOf with
    | some ns => .ok (.int ns.sum) cs
    | none => .no
  | _ => M.no
def opAll : List D → M D
  | [d] => fun cs => match (seqOf cs d).bind blsOf with
    | some bs => .ok (.bl (bs.all id)) cs
    | none => .no
  | _ => M.no
theorem cd_sum : CallD K ct (rSum K) opSum := fun W n F H as cs vs ds Q ok hv h => by
  unfold opSum at h
  split at h
  · obtain ⟨v, rfl, h1⟩ := dvl1 hv
    try dsimp only at h
    split at h
    · rename_i ns e
      obtain ⟨xs, e1, e2⟩ := Option.bind_eq_some_iff.mp e
      obtain ⟨a, ys, rfl, h2, l⟩ := seq_at ok h1 e1
      rw [intsOf_eq l e2] at h2
      exact ⟨a, ns, rfl, h2, end_ok ok (.int _) h⟩
    · exact False.elim h
  · exact False.elim h
theorem cd_all : CallD K ct (rAll K) opAll := fun W n F H as cs vs ds Q ok hv h => by
  unfold opAll at h
  split at h
  · obtain ⟨v, rfl, h1⟩ := dvl1 hv
    try dsimp only at h
    split at h
    · rename_i ns e
      obtain ⟨xs, e1, e2⟩ := Option.bind_eq_some_iff.mp e
      obtain ⟨a, ys, rfl, h2, l⟩ := seq_at ok h1 e1
      rw [blsOf_eq l e2] at h2
      exact ⟨a, ns, rfl, h2, end_ok ok (.bl _) h⟩
    · exact False.elim h
  · exact False.elim h
/-! ### sorted, of pairs of ints -/
def pairD (p : Int × Int) : D := .tup [.int p.1, .int p.2]
def pairsOf : List D → Option (List (Int × Int))
  | [] => some []
  | .tup [.int i, .int j] :: r => (pairsOf r).map ((i, j) :: ·)
  | _ => none
theorem pairsOf_map : ∀ {ds : List D} {ps : List (Int × Int)}, pairsOf ds = some ps → ds = ps.map pairD
  | [], ps, e => by
    cases e
    rfl
  | .tup [.int i, .int j] :: r, ps, e => by
    have e2 : (pairsOf r).map ((i, j) :: ·) = some ps := e
    cases q : pairsOf r with
    | none =>
      rw [q] at e2
      cases e2
    | some s =>
      rw [q] at e2
      cases e2
      rw [pairsOf_map q]
      rfl
  | .non :: _, _, e | .bl _ :: _, _, e | .int _ :: _, _, e | .str _ :: _, _, e | .lst _ :: _, _, e | .ref _ :: _, _, e | .dic :: _, _, e | .scr _ :: _, _, e => by cases e
  | .tup [] :: _, _, e | .tup [_] :: _, _, e | .tup (_ :: _ :: _ :: _) :: _, _, e => by
    first
      | cases e
      | (simp [pairsOf] at e)
  | .tup [.int _, .non] :: _, _, e | .tup [.int _, .bl _] :: _, _, e | .tup [.int _, .str _] :: _, _, e | .tup [.int _, .tup _] :: _, _, e | .tup [.int _, .lst _] :: _, _, e | .tup [.int _, .ref _] :: _, _, e | .tup [.int _, .dic] :: _, _, e | .tup [.int _, .scr _] :: _, _, e => by cases e
  | .tup [.non, _] :: _, _, e | .tup [.bl _, _] :: _, _, e | .tup [.str _, _] :: _, _, e | .tup [.tup _, _] :: _, _, e | .tup [.lst _, _] :: _, _, e | .tup [.ref _, _] :: _, _, e | .tup [.dic, _] :: _, _, e | .tup [.scr _, _] :: _, _, e => by cases e
/-- lexicographic -/
def lexLe (p q : Int × Int) : Bool := decide (p.1 < q.1 ∨ (p.1 = q.1 ∧ p.2 ≤ q.2))
def insP (p : Int × Int) : List (Int × Int) → List (Int × Int)
  | [] => [p]
  | q :: r => if lexLe p q = true then p :: q :: r else q :: insP p r
def sortP : List (Int × Int) → List (Int × Int)
  | [] => []
  | p :: r => insP p (sortP r)
theorem lexLe_total (p q : Int × Int) (h : ¬ lexLe p q = true) : lexLe q p = true := by
  unfold lexLe at h ⊢
  rw [decide_eq_true_eq] at h ⊢
  omega
theorem lexLe_trans {p q r : Int × Int} (h : lexLe p q = true) (h2 : lexLe q r = true) : lexLe p r = true := by
  unfold lexLe at h h2 ⊢
  rw [decide_eq_true_eq] at h h2 ⊢
  omega
theorem lexLe_anti {p q : Int × Int} (h : lexLe p q = true) (h2 : lexLe q p = true) : p = q := by
  unfold lexLe at h h2
  rw [decide_eq_true_eq] at h h2
  exact Prod.ext (by omega) (by omega)
theorem insP_perm (p : Int × Int) : ∀ l, (insP p l).Perm (p :: l)
  | [] => List.Perm.refl _
  | q :: r => by
    unfold insP
    split
    · exact List.Perm.refl _
    · exact ((insP_perm p r).cons q).trans (List.Perm.swap p q r)
theorem sortP_perm : ∀ l, (sortP l).Perm l
  | [] => List.Perm.refl _
  | p :: r => (insP_perm p (sortP r)).trans ((sortP_perm r).cons p)
theorem insP_sorted (p : Int × Int) : ∀ l, l.Pairwise (fun a b => lexLe a b = true) → (insP p l).Pairwise fun a b => lexLe a b = true
  | [], _ => List.pairwise_singleton _ _
  | q :: r, h => by
    unfold insP
    split
    · rename_i hp
      refine List.pairwise_cons.mpr ⟨fun x hx => ?_, h⟩
      rcases List.mem_cons.mp hx with e | e
      · rw [e]
        exact hp
      · exact lexLe_trans hp ((List.pairwise_cons.mp h).1 x e)
    · rename_i hp
      refine List.pairwise_cons.mpr ⟨fun x hx => ?_, insP_sorted p r (List.pairwise_cons.mp h).2⟩
      rcases List.mem_cons.mp ((insP_perm p r).mem_iff.mp hx) with e | e
      · rw [e]
        exact lexLe_total p q hp
      · exact (List.pairwise_cons.mp h).1 x e
theorem sortP_sorted : ∀ l, (sortP l).Pairwise fun a b => lexLe a b = true
  | [] => List.Pairwise.nil
  | p :: r => insP_sorted p _ (sortP_sorted r)
theorem sorted_one : ∀ {l m : List (Int × Int)}, l.Perm m → l.Pairwise (fun a b => lexLe a b = true) → m.Pairwise (fun a b => lexLe a b = true) → l = m
  | [], m, p, _, _ => (List.nil_perm.mp p).symm
  | a :: l, [], p, _, _ => absurd p.length_eq (by simp)
  | a :: l, b :: m, p, h1, h2 => by
    have e : a = b := by
      have ha : a ∈ b :: m := p.mem_iff.mp List.mem_cons_self
      have hb : b ∈ a :: l := p.mem_iff.mpr List.mem_cons_self
      rcases List.mem_cons.mp ha with z | z
      · exact z
      · rcases List.mem_cons.mp hb with y | y
        · exact y.symm
        · exact lexLe_anti ((List.pairwise_cons.mp h1).1 b y) ((List.pairwise_cons.mp h2).1 a z)
    subst e
    rw [sorted_one ((List.perm_cons a).mp p) (List.pairwise_cons.mp h1).2 (List.pairwise_cons.mp h2).2]
def opSorted (c : Bool) : List D → M D
  | [d] => fun cs => match (seqOf cs d).bind pairsOf with
    | some ps => mkL c ((sortP ps).map pairD) cs
    | none => .no
  | _ => M.no
theorem cd_sorted (c : Bool) : CallD K ct (rSortedPO K) (opSorted c) := fun W n F H as cs vs ds Q ok hv h => by
  unfold opSorted at h
  split at h
  · obtain ⟨v, rfl, h1⟩ := dvl1 hv
    try dsimp only at h
    split at h
    · rename_i ps e
      obtain ⟨xs, e1, e2⟩ := Option.bind_eq_some_iff.mp e
      obtain ⟨a, ys, rfl, h2, l⟩ := seq_at ok h1 e1
      have ex := pairsOf_map e2
      -- each item's pair
      have key : ∀ y ∈ ys, ∃ p : Int × Int, p ∈ ps ∧ ∃ t, y = V.ref t ∧ F t = some (.tup [.int p.1, .int p.2]) := fun y hy => by
        obtain ⟨i, hi⟩ := List.mem_iff_getElem?.mp hy
        obtain ⟨d, hd, hv⟩ := l.getV hi
        rw [ex, List.getElem?_map] at hd
        cases q : ps[i]? with
        | none =>
          rw [q] at hd
          cases hd
        | some p =>
          rw [q] at hd
          have ed : pairD p = d := Option.some.inj hd
          subst ed
          cases hv with
          | tup ht hl =>
            obtain ⟨u1, u2, rfl, w1, w2⟩ := dvl2 hl
            cases w1
            cases w2
            exact ⟨p, List.mem_of_getElem? q, _, rfl, ht⟩
      let k : V → Int × Int := fun y => match y with
        | .ref t => (match F t with
          | some (.tup [.int i, .int j]) => (i, j)
          | _ => (0, 0))
        | _ => (0, 0)
      have hk : ∀ t i j, F t = some (.tup [.int i, .int j]) → k (.ref t) = (i, j) := fun t i j e => by
        show (match F t with
          | some (.tup [.int i, .int j]) => (i, j)
          | _ => (0, 0)) = (i, j)
        rw [e]
      have hmap : ys.map k = ps := by
        apply List.ext_getElem?
        intro i
        rw [List.getElem?_map]
        cases q : ys[i]? with
        | none =>
          have hl := l.length
          rw [ex, List.length_map] at hl
          have : ys.length ≤ i := List.getElem?_eq_none_iff.mp q
          rw [List.getElem?_eq_none (by omega)]
          rfl
        | some y =>
          obtain ⟨d, hd, hv⟩ := l.getV q
          rw [ex, List.getElem?_map] at hd
          cases q2 : ps[i]? with
          | none =>
            rw [q2] at hd
            cases hd
          | some p =>
            rw [q2] at hd
            have ed : pairD p = d := Option.some.inj hd
            subst ed
            cases hv with
            | tup ht hl =>
              obtain ⟨u1, u2, rfl, w1, w2⟩ := dvl2 hl
              cases w1
              cases w2
              rw [Option.map_some, hk _ _ _ ht]
      refine ⟨a, ys, k, rfl, h2, fun y hy => ?_, fun zs p hs hb hp => ?_⟩
      · obtain ⟨q, _, t, rfl, ht⟩ := key y hy
        exact ⟨t, rfl, by rw [hk _ _ _ ht]; exact ok.fh _ _ ht⟩
      · have hz : zs.map k = sortP ps := by
          refine sorted_one ((hb.perm.map k).trans (by rw [hmap]; exact (sortP_perm ps).symm)) ?_ (sortP_sorted ps)
          rw [List.pairwise_map]
          refine List.Pairwise.imp (fun {x y} hxy => ?_) hs
          have := SrtO.lexB_no.mp hxy
          unfold lexLe
          rw [decide_eq_true_eq]
          omega
        have hd : DvL K F as zs ((sortP ps).map pairD) := by
          rw [← hz, List.map_map]
          have sub : ∀ y ∈ zs, ∃ p : Int × Int, p ∈ ps ∧ ∃ t, y = V.ref t ∧ F t = some (.tup [.int p.1, .int p.2]) := fun y hy => key y (hb.perm.mem_iff.mp hy)
          clear hs hb hz
          induction zs with
          | nil => exact .nil
          | cons y r ih =>
            refine .cons ?_ (ih fun y hy => sub y (List.mem_cons_of_mem _ hy))
            obtain ⟨q, _, t, rfl, ht⟩ := sub y List.mem_cons_self
            show Dv K F as (.ref t) (pairD (k (.ref t)))
            rw [hk _ _ _ ht]
            exact .tup ht (.cons (.int _) (.cons (.int _) .nil))
        exact new_mk ok hd h p hp
    · exact False.elim h
  · exact False.elim h
end
/-! ### join -/
def strsOf : List D → Option (List Str)
  | [] => some []
  | .str i :: r => (strsOf r).map (i :: ·)
  | _ => none
section
variable {K : PySem.W.Frag} {ct : Ct}
theorem strsOf_eq {F : Hp} {as : List Addr} : ∀ {vs : List V} {ds : List D} {ns : List Str}, DvL K F as vs ds → strsOf ds = some ns → vs = ns.map V.str
  | _, _, _, .nil, e => by
    cases e
    rfl
  | _, _, ns, .cons (d := d) (ds := ds) h t, e => by
    cases h with
    | str i =>
      have e2 : (strsOf ds).map (i :: ·) = some ns := e
      cases q : strsOf ds with
      | none =>
        rw [q] at e2
        cases e2
      | some r =>
        rw [q] at e2
        cases e2
        rw [strsOf_eq t q]
        rfl
    | _ => cases e
end
def opJoin (a : Str) : D → M D := fun d cs => match (seqOf cs d).bind strsOf with
  | some ys => if szOk ((ys.map (·.length)).sum + ys.length * a.length) = true then .ok (.str (Txt.join a ys)) cs else .no
  | none => .no
section
variable {X : Cx} {ct : Ct} {W : WX} {a e : Expr} {ma me : En → M D} {pos apos : Pos}
theorem ge_join {z : Str} {j : Nat} {zp : Pos} (he : PE X e (tD X.K ct W me)) (hs : starEach [e] X.env = [(false, eval e X.env)] := by rfl) (hbase : attributeBase (.Constant (.str z) j zp) "join" X.env (eval (.Constant (.str z) j zp) X.env) = eval (.Constant (.str z) j zp) X.env := by rfl) (hline : (apos.endLine == pos.line) = true := by rfl) :
    PE X (.Call (.Attribute (.Constant (.str z) j zp) "join" apos) [e] [] pos) (tD X.K ct W (xUn (opJoin z) me)) := PE.imp (pe_join pe_str he hs hbase hline) (by
  rintro σ H Q ⟨F, as, env, cs, ok, sl, h⟩
  refine ⟨⟨z, rfl⟩, F, as, env, cs, ok, sl, out_imp (out_bnd h) fun f cs2 F2 H2 as2 g2 ok2 h2 u hu => ?_⟩
  unfold opJoin at h2
  split at h2
  · rename_i ys q
    split at h2
    · rename_i q2
      obtain ⟨xs, e1, e2⟩ := Option.bind_eq_some_iff.mp q
      obtain ⟨p, zs, rfl, h3, l⟩ := seq_at ok2 hu e1
      rw [strsOf_eq l e2] at h3
      exact ⟨z, p, ys, rfl, rfl, .inl h3, Nat.le_trans (of_decide_eq_true q2) (by decide), end_ok ok2 (.str _) h2⟩
    · exact False.elim h2
  · exact False.elim h2)
/-! ### isinstance -/
inductive Ty where
  | int | bool | str | tuple | list
def Ty.nm : Ty → String
  | .int => "int"
  | .bool => "bool"
  | .str => "str"
  | .tuple => "tuple"
  | .list => "list"
def isD : Ty → D → Bool
  | .int, .int _ => true
  | .int, .bl _ => true
  | .bool, .bl _ => true
  | .str, .str _ => true
  | .tuple, .tup _ => true
  | .list, .lst _ => true
  | .list, .ref _ => true
  | .list, .scr _ => true
  | _, _ => false
def tyN : D → String
  | .non => "NoneType"
  | .bl _ => "bool"
  | .int _ => "int"
  | .str _ => "str"
  | .tup _ => "tuple"
  | .dic => "dict"
  | _ => "list"
theorem kit_non : ∀ T : Ty, kitB (tyN .non) T.nm = some (isD T .non)
  | .int => by decide +kernel
  | .bool => by decide +kernel
  | .str => by decide +kernel
  | .tuple => by decide +kernel
  | .list => by decide +kernel
theorem kit_bl : ∀ T : Ty, kitB (tyN (.bl true)) T.nm = some (isD T (.bl true))
  | .int => by decide +kernel
  | .bool => by decide +kernel
  | .str => by decide +kernel
  | .tuple => by decide +kernel
  | .list => by decide +kernel
theorem kit_int : ∀ T : Ty, kitB (tyN (.int 0)) T.nm = some (isD T (.int 0))
  | .int => by decide +kernel
  | .bool => by decide +kernel
  | .str => by decide +kernel
  | .tuple => by decide +kernel
  | .list => by decide +kernel
theorem kit_str : ∀ T : Ty, kitB (tyN (.str Str.empty)) T.nm = some (isD T (.str Str.empty))
  | .int => by decide +kernel
  | .bool => by decide +kernel
  | .str => by decide +kernel
  | .tuple => by decide +kernel
  | .list => by decide +kernel
theorem kit_tup : ∀ T : Ty, kitB (tyN (.tup [])) T.nm = some (isD T (.tup []))
  | .int => by decide +kernel
  | .bool => by decide +kernel
  | .str => by decide +kernel
  | .tuple => by decide +kernel
  | .list => by decide +kernel
theorem kit_lst : ∀ T : Ty, kitB (tyN (.lst [])) T.nm = some (isD T (.lst []))
  | .int => by decide +kernel
  | .bool => by decide +kernel
  | .str => by decide +kernel
  | .tuple => by decide +kernel
  | .list => by decide +kernel
theorem kit_ref : ∀ T : Ty, kitB (tyN (.ref 0)) T.nm = some (isD T (.ref 0))
  | .int => by decide +kernel
  | .bool => by decide +kernel
  | .str => by decide +kernel
  | .tuple => by decide +kernel
  | .list => by decide +kernel
theorem kit_dic : ∀ T : Ty, kitB (tyN .dic) T.nm = some (isD T .dic)
  | .int => by decide +kernel
  | .bool => by decide +kernel
  | .str => by decide +kernel
  | .tuple => by decide +kernel
  | .list => by decide +kernel
theorem kit_scr : ∀ T : Ty, kitB (tyN (.scr [])) T.nm = some (isD T (.scr []))
  | .int => by decide +kernel
  | .bool => by decide +kernel
  | .str => by decide +kernel
  | .tuple => by decide +kernel
  | .list => by decide +kernel
theorem kit_isD (T : Ty) (d : D) : kitB (tyN d) T.nm = some (isD T d) := by
  cases d with
  | non => exact (kit_non T).trans (by cases T <;> rfl)
  | bl _ => exact (kit_bl T).trans (by cases T <;> rfl)
  | int _ => exact (kit_int T).trans (by cases T <;> rfl)
  | str _ => exact (kit_str T).trans (by cases T <;> rfl)
  | tup _ => exact (kit_tup T).trans (by cases T <;> rfl)
  | lst _ => exact (kit_lst T).trans (by cases T <;> rfl)
  | ref _ => exact (kit_ref T).trans (by cases T <;> rfl)
  | dic => exact (kit_dic T).trans (by cases T <;> rfl)
  | scr _ => exact (kit_scr T).trans (by cases T <;> rfl)
theorem tyX_of {K : PySem.W.Frag} {F H : Hp} {as : List Addr} {cs : Cs} {v : V} {d : D} (ok : Ok K F H as cs) (h : Dv K F as v d) : TyX K H v (.type (tyN d)) := by
  cases h with
  | non => exact .base .non
  | bl b => exact .base (.bl b)
  | int i => exact .base (.int i)
  | str x => exact .base (.str x)
  | tup h _ => exact .base (.tup (ok.fh _ _ h))
  | lst h _ => exact .base (.lst (ok.fh _ _ h))
  | ref h =>
    obtain ⟨_, ys, h2⟩ := ok.old (List.mem_of_getElem? h)
    exact .base (.lst h2)
  | dic h => exact .base (.dK (ok.fh _ _ h))
  | scr h =>
    rcases ext_l ok.fh h with (h | ⟨o, h⟩) | ⟨o, its, n, h1, h2, _⟩
    · exact .base (.lst h)
    · exact .base (.frz h)
    · exact .kList h1 h2
def opIs (T : Ty) : D → M D := fun d => M.ret (.bl (isD T d))
theorem ge_isi {T : Ty} {x : Str} {p p2 : Pos} (hg : Gl X "isinstance") (hm : X.mg "isinstance" = none) (hg2 : Gl X x) (hm2 : X.mg x = none) (hv2 : bootBuiltins x = some (.type T.nm)) (he : PE X e (tD X.K ct W me)) (hn : x ≠ "__name__" := by decide) (hdb : (x == ("__debug__" : Str)) = false := by decide)
    (hs : starEach [e, .Name x p2] X.env = (false, eval e X.env) :: starEach [.Name x p2] X.env := by rfl) (hs2 : starEach [.Name x p2] X.env = (false, eval (.Name x p2) X.env) :: starEach [] X.env := by rfl) (hpl : (backTo pos (starEach [.Name x p2] X.env)).any (·.1) = false := by rfl) :
    PE X (.Call (.Name "isinstance" p) [e, .Name x p2] [] pos) (tD X.K ct W (xUn (opIs T) me)) := PE.imp (pe_callB call_isi hg hm (by decide +kernel) (pa_cons he (pa_cons (pe_bltn (v := .ty T.nm) hg2 hm2 hv2 rfl hn hdb) pa_nil hs2) hs) (by decide) (by decide) hs hpl) (by
  rintro σ H Q ⟨F, as, env, cs, ok, sl, h⟩
  refine ⟨F, as, env, cs, ok, sl, out_imp (out_bnd h) fun d cs1 F1 H1 as1 g ok1 h1 v hv => ?_⟩
  exact ⟨v, .ty T.nm, .type (tyN d), .type T.nm, isD T d, rfl, .ty _, tyX_of ok1 hv, kit_ty (kit_isD T d), end_ok ok1 (.bl _) h1⟩)
/-! ### slices -/
def cutD (xs : List D) (lo hi : Option Int) : List D := (xs.drop (HT.sIx xs.length 0 lo)).take (HT.sIx xs.length xs.length hi - HT.sIx xs.length 0 lo)
theorem DvL.cut {K : PySem.W.Frag} {F : Hp} {as : List Addr} {vs : List V} {ds : List D} (h : DvL K F as vs ds) (lo hi : Option Int) : DvL K F as (cutV vs lo hi) (cutD ds lo hi) := by
  unfold cutV cutD
  rw [h.length]
  exact (h.drop _).take _
/-- a slice's part -/
def pNo : En → M (Option Int) := fun _ => M.ret none
def pSome (a : En → M D) : En → M (Option Int) := fun env => M.bnd (a env) fun d => match d with
  | .int i => M.ret (some i)
  | _ => M.no
def tO (K : PySem.W.Frag) (ct : Ct) (W : WX) (m : En → M (Option Int)) : TO := fun σ H Q => ∃ F as env cs, Ok K F H as cs ∧ Sl K F as σ env ∧ out K ct W σ.length F H as (m env cs) fun o _ _ H' _ => Q o H'
theorem PO.imp {o : Option Expr} {t t' : TO} (h : PO X o t) (k : ∀ σ H Q, t' σ H Q → t σ H Q) : PO X o t' := ⟨fun pins s σ H Q I w => h.run pins s σ H Q I (k σ H Q w)⟩
theorem go_no : PO X none (tO X.K ct W pNo) := PO.imp po_none (by
  rintro σ H Q ⟨F, as, env, cs, ok, sl, h⟩
  exact out_ok ok h)
theorem go_some (h : PE X e (tD X.K ct W me)) : PO X (some e) (tO X.K ct W (pSome me)) := PO.imp (po_some h) (by
  rintro σ H Q ⟨F, as, env, cs, ok, sl, h⟩
  refine ⟨F, as, env, cs, ok, sl, out_imp (out_bnd h) fun d cs1 F1 H1 as1 g ok1 h1 v hv => ?_⟩
  split at h1
  · cases hv
    exact ⟨_, rfl, out_ok ok1 h1⟩
  · exact False.elim h1)
def xSl (c : Bool) (a : En → M D) (lo hi : En → M (Option Int)) : En → M D := fun env => M.bnd (a env) fun d => M.bnd (lo env) fun l => M.bnd (hi env) fun u => fun cs => match seqOf cs d with
  | some xs => mkL c (cutD xs l u) cs
  | none => .no
theorem ge_sl (c : Bool) {lo hi : Option Expr} {ml mh : En → M (Option Int)} {p2 : Pos} (he : PE X e (tD X.K ct W me)) (hl : PO X lo (tO X.K ct W ml)) (hh : PO X hi (tO X.K ct W mh)) : PE X (.Subscript e (.Slice lo hi none p2) pos) (tD X.K ct W (xSl c me ml mh)) := PE.imp (pe_slice sl_list he hl hh) (by
  rintro σ H Q ⟨F, as, env, cs, ok, sl, h⟩
  refine ⟨F, as, env, cs, ok, sl, out_imp (out_bnd h) fun d cs1 F1 H1 as1 g1 ok1 h1 v hv => ?_⟩
  refine ⟨F1, as1, env, cs1, ok1, sl.gro g1, out_imp (out_bnd h1) fun l cs2 F2 H2 as2 g2 ok2 h2 => ?_⟩
  refine ⟨F2, as2, env, cs2, ok2, (sl.gro g1).gro g2, out_imp (out_bnd h2) fun u cs3 F3 H3 as3 g3 ok3 h3 => ?_⟩
  try dsimp only at h3
  split at h3
  · rename_i xs q
    obtain ⟨a, ys, rfl, h4, lk⟩ := seq_at ok3 ((hv.gro g2).gro g3) q
    exact ⟨a, ys, rfl, h4, new_mk ok3 (lk.cut l u) h3⟩
  · exact False.elim h3)
/-- xs[::-1] -/
def opRev (c : Bool) : D → M D := fun d cs => match seqOf cs d with
  | some xs => mkL c xs.reverse cs
  | none => .no
theorem ge_rev (c : Bool) {k : Nat} {p1 p2 p3 : Pos} (he : PE X e (tD X.K ct W me)) : PE X (.Subscript e (.Slice none none (some (.UnaryOp .USub (.Constant (.int 1) k p1) p2)) p3) pos) (tD X.K ct W (xUn (opRev c) me)) := PE.imp (pe_revL he) (by
  rintro σ H Q ⟨F, as, env, cs, ok, sl, h⟩
  refine ⟨F, as, env, cs, ok, sl, out_imp (out_bnd h) fun d cs1 F1 H1 as1 g1 ok1 h1 v hv => ?_⟩
  unfold opRev at h1
  split at h1
  · rename_i xs q
    obtain ⟨a, ys, rfl, h4, lk⟩ := seq_at ok1 hv q
    exact ⟨a, ys, rfl, h4, new_mk ok1 lk.rev h1⟩
  · exact False.elim h1)
/-! ### list(range(..)), tuple(range(..)) -/
def rngD (a : Int) (n : Nat) : List D := (List.range n).map fun i => .int (a + (i : Nat))
theorem rng_dv {K : PySem.W.Frag} {F : Hp} {as : List Addr} (a b : Int) : DvL K F as (rgV a b) (rngD a (b - a).toNat) := by
  unfold rgV rngD
  generalize List.range (b - a).toNat = l
  induction l with
  | nil => exact .nil
  | cons i r ih => exact .cons (.int _) ih
def rgOk (a b : Int) : Bool := decide (-(2 ^ 62) ≤ a ∧ a < 2 ^ 62 ∧ -(2 ^ 62) ≤ b ∧ b < 2 ^ 62) && szOk (b - a).toNat
theorem rgOk_ok {a b : Int} (h : rgOk a b = true) : RgOk a b := by
  obtain ⟨h1, h2⟩ := Bool.and_eq_true_iff.mp h
  obtain ⟨h3, h4, h5, h6⟩ := of_decide_eq_true h1
  exact ⟨h3, h4, h5, h6, Nat.le_trans (of_decide_eq_true h2) (by decide)⟩
def opRg (tu c : Bool) : D → M D
  | .int b => if rgOk 0 b = true then (if tu = true then M.ret (.tup (rngD 0 (b - 0).toNat)) else mkL c (rngD 0 (b - 0).toNat)) else M.no
  | _ => M.no
theorem ge_listRg (c : Bool) {p p2 p3 : Pos} (hc : X.calm = true) (hg : Gl X "list") (hm : X.mg "list" = none) (hg2 : Gl X "range") (hm2 : X.mg "range" = none) (he : PE X e (tD X.K ct W me)) (na : starEach [e] X.env = (false, eval e X.env) :: starEach [] X.env := by rfl)
    (nb : starEach [.Call (.Name "range" p2) [e] [] p3] X.env = (false, eval (.Call (.Name "range" p2) [e] [] p3) X.env) :: starEach [] X.env := by rfl) : PE X (.Call (.Name "list" p) [.Call (.Name "range" p2) [e] [] p3] [] pos) (tD X.K ct W (xUn (opRg false c) me)) := PE.imp (pe_listRg hc hg hm (prg_1 hg2 hm2 he na) nb) (by
  rintro σ H Q ⟨F, as, env, cs, ok, sl, h⟩
  refine ⟨F, as, env, cs, ok, sl, out_imp (out_bnd h) fun d cs1 F1 H1 as1 g1 ok1 h1 v hv => ?_⟩
  unfold opRg at h1
  split at h1
  · split at h1
    · rename_i b q
      cases hv
      exact ⟨b, rfl, rgOk_ok q, new_mk ok1 (rng_dv 0 b) h1⟩
    · exact False.elim h1
  · exact False.elim h1)
theorem ge_tupRg {p p2 p3 : Pos} (hc : X.calm = true) (hg : Gl X "tuple") (hm : X.mg "tuple" = none) (hg2 : Gl X "range") (hm2 : X.mg "range" = none) (he : PE X e (tD X.K ct W me)) (na : starEach [e] X.env = (false, eval e X.env) :: starEach [] X.env := by rfl)
    (nb : starEach [.Call (.Name "range" p2) [e] [] p3] X.env = (false, eval (.Call (.Name "range" p2) [e] [] p3) X.env) :: starEach [] X.env := by rfl) : PE X (.Call (.Name "tuple" p) [.Call (.Name "range" p2) [e] [] p3] [] pos) (tD X.K ct W (xUn (opRg true false) me)) := PE.imp (pe_tupRg hc hg hm (prg_1 hg2 hm2 he na) nb) (by
  rintro σ H Q ⟨F, as, env, cs, ok, sl, h⟩
  refine ⟨F, as, env, cs, ok, sl, out_imp (out_bnd h) fun d cs1 F1 H1 as1 g1 ok1 h1 v hv => ?_⟩
  unfold opRg at h1
  split at h1
  · split at h1
    · rename_i b q
      cases hv
      exact ⟨b, rfl, rgOk_ok q, new_tup ok1 (rng_dv 0 b) h1⟩
    · exact False.elim h1
  · exact False.elim h1)
end
end G
/-! G3: what is walked, comprehensions, statements. -/
namespace G
open L2 PySem PySem.Spec PyProof.Rows
/-! ### targets -/
inductive Tg where
  | nm (j : Nat) | tp (js : List Nat)
def setAll : List Nat → List D → En → Option En
  | [], [], env => some env
  | j :: js, d :: ds, env => setAll js ds (env.set j (some d))
  | _, _, _ => none
def tgS : Tg → D → En → Option En
  | .nm j, d, env => some (env.set j (some d))
  | .tp js, .tup ds, env => setAll js ds env
  | _, _, _ => none
def gNs : List Nat → TGs
  | [] => gNil
  | j :: js => gCons (gName j) (gNs js)
def tgR (K : PySem.W.Frag) : Tg → TG
  | .nm j => gName j
  | .tp js => gTup K js.length (gNs js)
def Tg.slots : Tg → List Nat
  | .nm j => [j]
  | .tp js => js
section
variable {K : PySem.W.Frag} {F H : Hp} {as : List Addr} {cs : Cs}
theorem wipe_get {σ : L2.St} : ∀ {vs : List Nat} (i : Nat), (wipe σ vs)[i]? = if i ∈ vs ∧ i < σ.length then some none else σ[i]?
  | [], i => by
    rw [if_neg (by simp)]
    rfl
  | v :: vs, i => by
    show ((wipe σ vs).set v none)[i]? = _
    by_cases e : v = i
    · subst e
      by_cases hl : v < σ.length
      · rw [List.getElem?_set_self (by rw [wipe_length]; exact hl), if_pos ⟨List.mem_cons_self, hl⟩]
      · rw [List.getElem?_eq_none (by rw [List.length_set, wipe_length]; exact Nat.le_of_not_lt hl), if_neg (fun z => hl z.2), List.getElem?_eq_none (Nat.le_of_not_lt hl)]
    · rw [List.getElem?_set_ne e, wipe_get i]
      have : (i ∈ v :: vs ∧ i < σ.length) ↔ (i ∈ vs ∧ i < σ.length) := by
        rw [List.mem_cons]
        constructor
        · rintro ⟨h | h, h2⟩
          · exact absurd h.symm e
          · exact ⟨h, h2⟩
        · rintro ⟨h, h2⟩
          exact ⟨.inr h, h2⟩
      by_cases c : i ∈ vs ∧ i < σ.length
      · rw [if_pos c, if_pos (this.mpr c)]
      · rw [if_neg c, if_neg fun z => c (this.mp z)]
theorem wipe_set {σ : L2.St} {vs : List Nat} {j : Nat} (h : j ∈ vs) (x : Option V) : wipe (σ.set j x) vs = wipe σ vs := by
  apply List.ext_getElem?
  intro i
  rw [wipe_get, wipe_get, List.length_set]
  by_cases c : i ∈ vs ∧ i < σ.length
  · rw [if_pos c, if_pos c]
  · rw [if_neg c, if_neg c]
    by_cases e : j = i
    · subst e
      have hl : ¬ j < σ.length := fun z => c ⟨h, z⟩
      rw [List.getElem?_eq_none (by rw [List.length_set]; exact Nat.le_of_not_lt hl), List.getElem?_eq_none (Nat.le_of_not_lt hl)]
    · rw [List.getElem?_set_ne e]
theorem setAll_ok : ∀ {js : List Nat} {ds : List D} {vs : List V} {σ : L2.St} {env env' : En}, DvL K F as vs ds → Sl K F as σ env → setAll js ds env = some env' →
    ∃ σ', Sl K F as σ' env' ∧ σ'.length = σ.length ∧ (∀ ws, (∀ j ∈ js, j ∈ ws) → wipe σ' ws = wipe σ ws) ∧ ∀ (H : Hp) (Q : L2.St → Hp → Prop), Q σ' H → gNs js vs σ H Q
  | [], [], _, σ, env, env', h, sl, e => by
    cases h
    cases e
    exact ⟨σ, sl, rfl, fun _ _ => rfl, fun _ _ q => ⟨rfl, q⟩⟩
  | j :: js, d :: ds, _, σ, env, env', h, sl, e => by
    cases h with
    | cons h1 h2 =>
      obtain ⟨σ', s1, l1, w1, q1⟩ := setAll_ok h2 (sl.set h1 j) e
      refine ⟨σ', s1, by rw [l1, List.length_set], fun ws hw => ?_, fun H Q q => ⟨_, _, rfl, q1 H Q q⟩⟩
      rw [w1 ws fun k hk => hw k (List.mem_cons_of_mem _ hk), wipe_set (hw j List.mem_cons_self)]
  | [], _ :: _, _, _, _, _, _, _, e => by cases e
  | _ :: _, [], _, _, _, _, _, _, e => by cases e
theorem setAll_len : ∀ {js : List Nat} {ds : List D} {env env' : En}, setAll js ds env = some env' → js.length = ds.length
  | [], [], _, _, _ => rfl
  | _ :: js, _ :: ds, _, _, e => congrArg (· + 1) (setAll_len (js := js) (ds := ds) e)
  | [], _ :: _, _, _, e => by cases e
  | _ :: _, [], _, _, e => by cases e
theorem tg_ok {t : Tg} {d : D} {v : V} {σ : L2.St} {env env' : En} (ok : Ok K F H as cs) (h : Dv K F as v d) (sl : Sl K F as σ env) (e : tgS t d env = some env') :
    ∃ σ', Sl K F as σ' env' ∧ σ'.length = σ.length ∧ (∀ ws, (∀ j ∈ t.slots, j ∈ ws) → wipe σ' ws = wipe σ ws) ∧ ∀ (Q : L2.St → Hp → Prop), Q σ' H → tgR K t v σ H Q := by
  cases t with
  | nm j =>
    cases e
    exact ⟨_, sl.set h j, List.length_set, fun ws hw => wipe_set (hw j List.mem_cons_self) _, fun Q q => q⟩
  | tp js =>
    cases d with
    | tup ds =>
      cases h with
      | tup t l =>
        obtain ⟨σ', s1, l1, w1, q1⟩ := setAll_ok l sl e
        exact ⟨σ', s1, l1, w1, fun Q q => ⟨_, _, rfl, SqT.of (ok.fh _ _ t), by rw [l.length, setAll_len e], q1 H Q q⟩⟩
    | _ => cases e
end
/-! ### what is walked -/
structure It0 where
  items : List D
  live : Cs → Bool
mutual
def eqD : D → D → Bool
  | .non, .non => true
  | .bl a, .bl b => a == b
  | .int i, .int j => i == j
  | .str x, .str y => x == y
  | .tup xs, .tup ys => eqDL xs ys
  | .lst xs, .lst ys => eqDL xs ys
  | .ref i, .ref j => i == j
  | .dic, .dic => true
  | .scr a, .scr b => a == b
  | _, _ => false
def eqDL : List D → List D → Bool
  | [], [] => true
  | x :: xs, y :: ys => eqD x y && eqDL xs ys
  | _, _ => false
end
mutual
theorem eqD_eq : ∀ {d e : D}, eqD d e = true → d = e
  | .non, .non, _ => rfl
  | .bl a, .bl b, h => congrArg D.bl (eq_of_beq (show (a == b) = true from h))
  | .int a, .int b, h => congrArg D.int (eq_of_beq (show (a == b) = true from h))
  | .str a, .str b, h => congrArg D.str (eq_of_beq (show (a == b) = true from h))
  | .tup a, .tup b, h => congrArg D.tup (eqDL_eq (show eqDL a b = true from h))
  | .lst a, .lst b, h => congrArg D.lst (eqDL_eq (show eqDL a b = true from h))
  | .ref a, .ref b, h => congrArg D.ref (eq_of_beq (show (a == b) = true from h))
  | .dic, .dic, _ => rfl
  | .scr a, .scr b, h => congrArg D.scr (eq_of_beq (show (a == b) = true from h))
  | .non, .bl _, h | .non, .int _, h | .non, .str _, h | .non, .tup _, h | .non, .lst _, h | .non, .ref _, h | .non, .dic, h | .non, .scr _, h => by cases h
  | .bl _, .non, h | .bl _, .int _, h | .bl _, .str _, h | .bl _, .tup _, h | .bl _, .lst _, h | .bl _, .ref _, h | .bl _, .dic, h | .bl _, .scr _, h => by cases h
  | .int _, .non, h | .int _, .bl _, h | .int _, .str _, h | .int _, .tup _, h | .int _, .lst _, h | .int _, .ref _, h | .int _, .dic, h | .int _, .scr _, h => by cases h
  | .str _, .non, h | .str _, .bl _, h | .str _, .int _, h | .str _, .tup _, h | .str _, .lst _, h | .str _, .ref _, h | .str _, .dic, h | .str _, .scr _, h => by cases h
  | .tup _, .non, h | .tup _, .bl _, h | .tup _, .int _, h | .tup _, .str _, h | .tup _, .lst _, h | .tup _, .ref _, h | .tup _, .dic, h | .tup _, .scr _, h => by cases h
  | .lst _, .non, h | .lst _, .bl _, h | .lst _, .int _, h | .lst _, .str _, h | .lst _, .tup _, h | .lst _, .ref _, h | .lst _, .dic, h | .lst _, .scr _, h => by cases h
  | .ref _, .non, h | .ref _, .bl _, h | .ref _, .int _, h | .ref _, .str _, h | .ref _, .tup _, h | .ref _, .lst _, h | .ref _, .dic, h | .ref _, .scr _, h => by cases h
  | .dic, .non, h | .dic, .bl _, h | .dic, .int _, h | .dic, .str _, h | .dic, .tup _, h | .dic, .lst _, h | .dic, .ref _, h | .dic, .scr _, h => by cases h
  | .scr _, .non, h | .scr _, .bl _, h | .scr _, .int _, h | .scr _, .str _, h | .scr _, .tup _, h | .scr _, .lst _, h | .scr _, .ref _, h | .scr _, .dic, h => by cases h
theorem eqDL_eq : ∀ {d e : List D}, eqDL d e = true → d = e
  | [], [], _ => rfl
  | x :: xs, y :: ys, h => by
    obtain ⟨h1, h2⟩ := Bool.and_eq_true_iff.mp (show (eqD x y && eqDL xs ys) = true from h)
    rw [eqD_eq h1, eqDL_eq h2]
  | [], _ :: _, h => by cases h
  | _ :: _, [], h => by cases h
end
/-- the list stands as it stood -/
def liveOf (xs : List D) : D → Cs → Bool
  | .ref i, cs' => (match cs'[i]? with
    | some ys => eqDL ys xs
    | none => false)
  | _, _ => true
theorem liveOf_ok {cs cs' : Cs} {d : D} {xs : List D} (e : seqOf cs d = some xs) (h : liveOf xs d cs' = true) : seqOf cs' d = some xs := by
  cases d with
  | ref i =>
    have h2 : (match cs'[i]? with
      | some ys => eqDL ys xs
      | none => false) = true := h
    cases q : cs'[i]? with
    | none =>
      rw [q] at h2
      cases h2
    | some ys =>
      rw [q] at h2
      show cs'[i]? = some xs
      rw [q, eqDL_eq h2]
  | _ => exact e
def ItOk (K : PySem.W.Frag) (F H : Hp) (as : List Addr) (J : It) (xs : List D) (live : Cs → Bool) : Prop :=
  ∀ F2 H2 as2 cs2, Gro F H as F2 H2 as2 → Ok K F2 H2 as2 cs2 → live cs2 = true →
    (∀ i d, xs[i]? = some d → J.go i H2 ∧ ∀ x H3, J.yld i H2 x H3 → ∃ F3, Gro F2 H2 as2 F3 H3 as2 ∧ Ok K F3 H3 as2 cs2 ∧ Dv K F3 as2 x d) ∧ J.stop xs.length H2
def tI (K : PySem.W.Frag) (ct : Ct) (W : WX) (m : En → M It0) : TI := fun σ H R => ∃ F as env cs, Ok K F H as cs ∧ Sl K F as σ env ∧ out K ct W σ.length F H as (m env cs) fun it _ F' H' as' => ∀ J, ItOk K F' H' as' J it.items it.live → R J H'
theorem PI.imp {X : Cx} {tg e : Expr} {t t' : TI} (h : PI X tg e t) (k : ∀ σ H R, t' σ H R → t σ H R) : PI X tg e t' := ⟨fun pins s σ H R I w => h.run pins s σ H R I (k σ H R w)⟩
def itSeq (m : En → M D) : En → M It0 := fun env => M.bnd (m env) fun d cs => match seqOf cs d with
  | some xs => .ok ⟨xs, liveOf xs d⟩ cs
  | none => .no
def itTup (m : En → M D) : En → M It0 := fun env => M.bnd (m env) fun d => match d with
  | .tup xs => M.ret ⟨xs, fun _ => true⟩
  | _ => M.no
def small62 (i : Int) : Bool := decide (-(2 ^ 62) ≤ i ∧ i < 2 ^ 62)
def rngC (a c : Int) (n : Nat) : List D := (List.range n).map fun i => .int (a + (i : Nat) * c)
def opR1 : D → M It0
  | .int j => if small62 j = true then M.ret ⟨rngD 0 j.toNat, fun _ => true⟩ else M.no
  | _ => M.no
def opR2 : D → D → M It0
  | .int i, .int j => if small62 i && small62 j then M.ret ⟨rngD i (j - i).toNat, fun _ => true⟩ else M.no
  | _, _ => M.no
def opR3 : D → D → D → M It0
  | .int i, .int j, .int c => if decide (c ≠ 0 ∧ c.natAbs < 1073741824 ∧ 0 ≤ Builtin.Range.rangeSize i j c) && Builtin.Range.small i j c then M.ret ⟨rngC i c (Builtin.Range.rangeSize i j c).toNat, fun _ => true⟩ else M.no
  | _, _, _ => M.no
def itR1 (a : En → M D) : En → M It0 := fun env => M.bnd (a env) opR1
def itR2 (a b : En → M D) : En → M It0 := fun env => M.bnd (a env) fun x => M.bnd (b env) fun y => opR2 x y
def itR3 (a b c : En → M D) : En → M It0 := fun env => M.bnd (a env) fun x => M.bnd (b env) fun y => M.bnd (c env) fun z => opR3 x y z
def itRev (m : En → M D) : En → M It0 := fun env => M.bnd (m env) fun d cs => match seqOf cs d with
  | some xs => .ok ⟨xs.reverse, liveOf xs d⟩ cs
  | none => .no
def itZip (a b : En → M D) : En → M It0 := fun env => M.bnd (a env) fun d => M.bnd (b env) fun e cs => match seqOf cs d, seqOf cs e with
  | some xs, some ys => .ok ⟨(xs.zip ys).map fun p => .tup [p.1, p.2], fun cs' => liveOf xs d cs' && liveOf ys e cs'⟩ cs
  | _, _ => .no
def itStr (m : En → M D) : En → M It0 := fun env => M.bnd (m env) fun d => match d with
  | .str z => M.ret ⟨z.cps.toList.map fun c => .str ⟨#[c]⟩, fun _ => true⟩
  | _ => M.no
section
variable {X : Cx} {ct : Ct} {W : WX} {tg e e2 e3 : Expr} {me m2 m3 : En → M D} {p pos : Pos}
theorem itOk_const {K : PySem.W.Frag} {F H : Hp} {as : List Addr} {J : It} {xs : List D} {live : Cs → Bool} (g : ∀ i d, xs[i]? = some d → ∀ H, J.go i H) (y : ∀ i d, xs[i]? = some d → ∀ H x H3, J.yld i H x H3 → H3 = H ∧ ∀ F as, Dv K F as x d) (s : ∀ H, J.stop xs.length H) : ItOk K F H as J xs live := fun F2 H2 as2 cs2 _ ok2 _ =>
  ⟨fun i d hd => ⟨g i d hd H2, fun x H3 hy => by
    obtain ⟨e, dv⟩ := y i d hd H2 x H3 hy
    subst e
    exact ⟨F2, Gro.refl _ _ _, ok2, dv F2 as2⟩⟩, s H2⟩
theorem rngD_get {a : Int} {n i : Nat} {d : D} (h : (rngD a n)[i]? = some d) : i < n ∧ d = .int (a + (i : Nat)) := by
  unfold rngD at h
  rw [List.getElem?_map] at h
  by_cases hi : i < n
  · rw [List.getElem?_range hi] at h
    exact ⟨hi, (Option.some.inj h).symm⟩
  · rw [List.getElem?_eq_none (by rw [List.length_range]; omega)] at h
    cases h
theorem rngC_get {a c : Int} {n i : Nat} {d : D} (h : (rngC a c n)[i]? = some d) : i < n ∧ d = .int (a + (i : Nat) * c) := by
  unfold rngC at h
  rw [List.getElem?_map] at h
  by_cases hi : i < n
  · rw [List.getElem?_range hi] at h
    exact ⟨hi, (Option.some.inj h).symm⟩
  · rw [List.getElem?_eq_none (by rw [List.length_range]; omega)] at h
    cases h
theorem itOk_rng {K : PySem.W.Frag} {F H : Hp} {as : List Addr} {a : Int} {n : Nat} {live : Cs → Bool} : ItOk K F H as (Itr a n) (rngD a n) live := itOk_const (fun i d h _ => (rngD_get h).1) (fun i d h H x H3 y => by
  obtain ⟨e, ex⟩ := y
  obtain ⟨_, ed⟩ := rngD_get h
  subst ed ex
  exact ⟨e, fun _ _ => .int _⟩) fun _ => by
    show n ≤ (rngD a n).length
    unfold rngD
    rw [List.length_map, List.length_range]
    exact Nat.le_refl n
theorem itOk_rngC {K : PySem.W.Frag} {F H : Hp} {as : List Addr} {a c : Int} {n : Nat} {live : Cs → Bool} : ItOk K F H as (Itc a c n) (rngC a c n) live := itOk_const (fun i d h _ => (rngC_get h).1) (fun i d h H x H3 y => by
  obtain ⟨e, ex⟩ := y
  obtain ⟨_, ed⟩ := rngC_get h
  subst ed ex
  exact ⟨e, fun _ _ => .int _⟩) fun _ => by
    show n ≤ (rngC a c n).length
    unfold rngC
    rw [List.length_map, List.length_range]
    exact Nat.le_refl n
theorem gi_r1 (hg : Gl X "range") (hm : X.mg "range" = none) (ha : PE X e (tD X.K ct W me)) (hs : starEach [e] X.env = [(false, eval e X.env)] := by rfl) (hs1 : starEach [e] X.env = (false, eval e X.env) :: starEach [] X.env := by rfl) : PI X tg (.Call (.Name "range" p) [e] [] pos) (tI X.K ct W (itR1 me)) := PI.imp (pi_range1 hg hm (pa_cons ha pa_nil hs1) hs) (by
  rintro σ H R ⟨F, as, env, cs, ok, sl, h⟩
  refine ⟨F, as, env, cs, ok, sl, out_imp (out_bnd h) fun d cs1 F1 H1 as1 g ok1 h1 v hv => ?_⟩
  unfold opR1 at h1
  split at h1
  · split at h1
    · rename_i j q
      cases hv
      obtain ⟨q1, q2⟩ := of_decide_eq_true q
      exact ⟨j, rfl, q1, q2, out_ok ok1 h1 _ itOk_rng⟩
    · exact False.elim h1
  · exact False.elim h1)
theorem gi_r2 (hg : Gl X "range") (hm : X.mg "range" = none) (ha : PE X e (tD X.K ct W me)) (hb : PE X e2 (tD X.K ct W m2)) (hs : starEach [e, e2] X.env = [(false, eval e X.env), (false, eval e2 X.env)] := by rfl) (hs2 : starEach [e2] X.env = [(false, eval e2 X.env)] := by rfl)
    (hs1 : starEach [e, e2] X.env = (false, eval e X.env) :: starEach [e2] X.env := by rfl) (hs3 : starEach [e2] X.env = (false, eval e2 X.env) :: starEach [] X.env := by rfl) : PI X tg (.Call (.Name "range" p) [e, e2] [] pos) (tI X.K ct W (itR2 me m2)) := PI.imp (pi_range2 hg hm (pa_cons ha (pa_cons hb pa_nil hs3) hs1) hs hs2) (by
  rintro σ H R ⟨F, as, env, cs, ok, sl, h⟩
  refine ⟨F, as, env, cs, ok, sl, out_imp (out_bnd h) fun d cs1 F1 H1 as1 g ok1 h1 v hv => ?_⟩
  refine ⟨F1, as1, env, cs1, ok1, sl.gro g, out_imp (out_bnd h1) fun d2 cs2 F2 H2 as2 g2 ok2 h2 u hu => ?_⟩
  unfold opR2 at h2
  split at h2
  · split at h2
    · rename_i i j q
      cases hv
      cases hu
      obtain ⟨q1, q2⟩ := Bool.and_eq_true_iff.mp q
      obtain ⟨q3, q4⟩ := of_decide_eq_true q1
      obtain ⟨q5, q6⟩ := of_decide_eq_true q2
      exact ⟨i, j, rfl, ⟨q3, q4, q5, q6⟩, out_ok ok2 h2 _ itOk_rng⟩
    · exact False.elim h2
  · exact False.elim h2)
theorem gi_r3 (hg : Gl X "range") (hm : X.mg "range" = none) (ha : PE X e (tD X.K ct W me)) (hb : PE X e2 (tD X.K ct W m2)) (hc : PE X e3 (tD X.K ct W m3)) (hs : starEach [e, e2, e3] X.env = (false, eval e X.env) :: starEach [e2, e3] X.env := by rfl) (hpl : (backTo pos (starEach [e2, e3] X.env)).any (·.1) = false := by rfl)
    (hs2 : starEach [e2, e3] X.env = (false, eval e2 X.env) :: starEach [e3] X.env := by rfl) (hs3 : starEach [e3] X.env = (false, eval e3 X.env) :: starEach [] X.env := by rfl) : PI X tg (.Call (.Name "range" p) [e, e2, e3] [] pos) (tI X.K ct W (itR3 me m2 m3)) := PI.imp (pi_range3 hg hm (pa_cons ha (pa_cons hb (pa_cons hc pa_nil hs3) hs2) hs) hs hpl) (by
  rintro σ H R ⟨F, as, env, cs, ok, sl, h⟩
  refine ⟨F, as, env, cs, ok, sl, out_imp (out_bnd h) fun d cs1 F1 H1 as1 g ok1 h1 v hv => ?_⟩
  refine ⟨F1, as1, env, cs1, ok1, sl.gro g, out_imp (out_bnd h1) fun d2 cs2 F2 H2 as2 g2 ok2 h2 u hu => ?_⟩
  refine ⟨F2, as2, env, cs2, ok2, (sl.gro g).gro g2, out_imp (out_bnd h2) fun d3 cs3 F3 H3 as3 g3 ok3 h3 w hw => ?_⟩
  unfold opR3 at h3
  split at h3
  · split at h3
    · rename_i i j c q
      cases hv
      cases hu
      cases hw
      obtain ⟨q1, q2⟩ := Bool.and_eq_true_iff.mp q
      obtain ⟨q3, q4, q5⟩ := of_decide_eq_true q1
      exact ⟨i, j, c, _, rfl, ⟨q3, q4, q2, by omega⟩, out_ok ok3 h3 _ itOk_rngC⟩
    · exact False.elim h3
  · exact False.elim h3)
theorem gi_seq (ha : PE X e (tD X.K ct W me)) : PI X tg e (tI X.K ct W (itSeq me)) := PI.imp (pi_list ha) (by
  rintro σ H R ⟨F, as, env, cs, ok, sl, h⟩
  refine ⟨F, as, env, cs, ok, sl, out_imp (out_bnd h) fun d cs1 F1 H1 as1 g ok1 h1 v hv => ?_⟩
  try dsimp only at h1
  split at h1
  · rename_i xs q
    obtain ⟨a, ys, rfl, h2, l⟩ := seq_at ok1 hv q
    refine ⟨a, rfl, ⟨ys, h2⟩, out_ok ok1 h1 _ fun F2 H2 as2 cs2 g2 ok2 lv => ?_⟩
    obtain ⟨b, zs, eb, h3, l3⟩ := seq_at ok2 (hv.gro g2) (liveOf_ok q lv)
    have ea : a = b := V.ref.inj eb
    subst ea
    refine ⟨fun i d hd => ?_, ⟨zs, h3, by rw [l3.length]; exact Nat.le_refl _⟩⟩
    obtain ⟨z, hz, dz⟩ := l3.get hd
    refine ⟨⟨zs, z, h3, hz⟩, fun x H3 hy => ?_⟩
    obtain ⟨e3, hy⟩ := hy
    subst e3
    have ex : z = x := Option.some.inj (hz.symm.trans (hy zs h3))
    subst ex
    exact ⟨F2, Gro.refl _ _ _, ok2, dz⟩
  · exact False.elim h1)
theorem gi_tup (ha : PE X e (tD X.K ct W me)) : PI X tg e (tI X.K ct W (itTup me)) := PI.imp (pi_tup ha) (by
  rintro σ H R ⟨F, as, env, cs, ok, sl, h⟩
  refine ⟨F, as, env, cs, ok, sl, out_imp (out_bnd h) fun d cs1 F1 H1 as1 g ok1 h1 v hv => ?_⟩
  split at h1
  · rename_i xs
    cases hv with
    | tup t l =>
      refine ⟨_, rfl, ⟨_, SqT.of (ok1.fh _ _ t)⟩, out_ok ok1 h1 _ fun F2 H2 as2 cs2 g2 ok2 lv => ?_⟩
      have h3 := SqT.of (K := X.K) (ok2.fh _ _ (g2.ff _ _ t))
      refine ⟨fun i d hd => ?_, ⟨_, h3, by rw [l.length]; exact Nat.le_refl _⟩⟩
      obtain ⟨z, hz, dz⟩ := (l.gro g2).get hd
      refine ⟨⟨_, z, h3, hz⟩, fun x H3 hy => ?_⟩
      obtain ⟨e3, hy⟩ := hy
      subst e3
      have ex : z = x := Option.some.inj (hz.symm.trans (hy _ h3))
      subst ex
      exact ⟨F2, Gro.refl _ _ _, ok2, dz⟩
  · exact False.elim h1)
theorem rev_get {α : Type} {xs : List α} {i : Nat} {d : α} (h : xs.reverse[i]? = some d) : i < xs.length ∧ xs[xs.length - 1 - i]? = some d := by
  have hi : i < xs.length := by
    have := (List.getElem?_eq_some_iff.mp h).1
    rwa [List.length_reverse] at this
  rw [List.getElem?_reverse hi] at h
  exact ⟨hi, h⟩
theorem gi_rev (hg : Gl X "reversed") (hm : X.mg "reversed" = none) (ha : PE X e (tD X.K ct W me)) (hs : starEach [e] X.env = [(false, eval e X.env)] := by rfl) (hs1 : starEach [e] X.env = (false, eval e X.env) :: starEach [] X.env := by rfl) : PI X tg (.Call (.Name "reversed" p) [e] [] pos) (tI X.K ct W (itRev me)) := PI.imp (pi_reversed hg hm (pa_cons ha pa_nil hs1) hs) (by
  rintro σ H R ⟨F, as, env, cs, ok, sl, h⟩
  refine ⟨F, as, env, cs, ok, sl, out_imp (out_bnd h) fun d cs1 F1 H1 as1 g ok1 h1 v hv => ?_⟩
  try dsimp only at h1
  split at h1
  · rename_i xs q
    obtain ⟨a, ys, rfl, h2, l⟩ := seq_at ok1 hv q
    refine ⟨a, ys, rfl, h2, out_ok ok1 h1 _ fun F2 H2 as2 cs2 g2 ok2 lv => ?_⟩
    obtain ⟨b, zs, eb, h3, l3⟩ := seq_at ok2 (hv.gro g2) (liveOf_ok q lv)
    have ea : a = b := V.ref.inj eb
    subst ea
    have hl := l.length
    refine ⟨fun i d hd => ?_, ?_⟩
    · obtain ⟨hi, hd⟩ := rev_get hd
      obtain ⟨z, hz, dz⟩ := l3.get hd
      have hz2 : zs[ys.length - 1 - i]? = some z := by rw [hl]; exact hz
      refine ⟨⟨by omega, zs, z, h3, hz2⟩, fun x H3 hy => ?_⟩
      obtain ⟨e3, hy⟩ := hy
      subst e3
      have ex : z = x := Option.some.inj (hz2.symm.trans (hy zs h3))
      subst ex
      exact ⟨F2, Gro.refl _ _ _, ok2, dz⟩
    · show ys.length ≤ xs.reverse.length
      rw [List.length_reverse, hl]
      exact Nat.le_refl _
  · exact False.elim h1)
theorem zip_get {α β : Type} : ∀ {xs : List α} {ys : List β} {i : Nat} {q : α × β}, (xs.zip ys)[i]? = some q → xs[i]? = some q.1 ∧ ys[i]? = some q.2
  | [], _, _, _, h => by simp at h
  | _ :: _, [], _, _, h => by simp at h
  | x :: xs, y :: ys, 0, q, h => by
    have e : (x, y) = q := Option.some.inj h
    subst e
    exact ⟨rfl, rfl⟩
  | x :: xs, y :: ys, i + 1, q, h => zip_get (xs := xs) (ys := ys) (i := i) (q := q) h
theorem gi_zip {elts : List Expr} {kk : Nat} {tpos : Pos} (hg : Gl X "zip") (hm : X.mg "zip" = none) (ha : PE X e (tD X.K ct W me)) (hb : PE X e2 (tD X.K ct W m2)) (hs : starEach [e, e2] X.env = (false, eval e X.env) :: starEach [e2] X.env := by rfl) (hpl : (backTo pos (starEach [e2] X.env)).any (·.1) = false := by rfl)
    (hs3 : starEach [e2] X.env = (false, eval e2 X.env) :: starEach [] X.env := by rfl) : PI X (.Tuple elts kk tpos) (.Call (.Name "zip" p) [e, e2] [] pos) (tI X.K ct W (itZip me m2)) := PI.imp (pi_zip hg hm (pa_cons ha (pa_cons hb pa_nil hs3) hs) hs hpl) (by
  rintro σ H R ⟨F, as, env, cs, ok, sl, h⟩
  refine ⟨F, as, env, cs, ok, sl, out_imp (out_bnd h) fun d cs1 F1 H1 as1 g ok1 h1 v hv => ?_⟩
  refine ⟨F1, as1, env, cs1, ok1, sl.gro g, out_imp (out_bnd h1) fun f cs2 F2 H2 as2 g2 ok2 h2 u hu => ?_⟩
  try dsimp only at h2
  split at h2
  · rename_i xs ys q1 q2
    obtain ⟨a, vs, rfl, h3, l3⟩ := seq_at ok2 (hv.gro g2) q1
    obtain ⟨b, us, rfl, h4, l4⟩ := seq_at ok2 hu q2
    refine ⟨a, b, vs, us, rfl, h3, h4, out_ok ok2 h2 _ fun F3 H3 as3 cs3 g3 ok3 lv => ?_⟩
    obtain ⟨lv1, lv2⟩ := Bool.and_eq_true_iff.mp lv
    obtain ⟨a', vs', ea, h5, l5⟩ := seq_at ok3 ((hv.gro g2).gro g3) (liveOf_ok q1 lv1)
    obtain ⟨b', us', eb, h6, l6⟩ := seq_at ok3 (hu.gro g3) (liveOf_ok q2 lv2)
    have ea : a = a' := V.ref.inj ea
    have eb : b = b' := V.ref.inj eb
    subst ea eb
    refine ⟨fun i d hd => ?_, ⟨vs', us', h5, h6, ?_⟩⟩
    · rw [List.getElem?_map] at hd
      cases q : (xs.zip ys)[i]? with
      | none =>
        rw [q] at hd
        cases hd
      | some pq =>
        rw [q] at hd
        have ed : D.tup [pq.1, pq.2] = d := Option.some.inj hd
        subst ed
        obtain ⟨z1, z2⟩ := zip_get q
        obtain ⟨w1, hw1, dw1⟩ := l5.get z1
        obtain ⟨w2, hw2, dw2⟩ := l6.get z2
        refine ⟨⟨vs', us', w1, w2, h5, h6, hw1, hw2⟩, fun x H4 hy => ?_⟩
        obtain ⟨T, x1, x2, rfl, hT, rfl, y1, y2⟩ := hy
        have e1 : w1 = x1 := Option.some.inj (hw1.symm.trans (y1 _ h5))
        have e2 : w2 = x2 := Option.some.inj (hw2.symm.trans (y2 _ h6))
        subst e1 e2
        exact ⟨_, gro_new _ ok3 hT, ok_new _ ok3 hT, .tup upd_same (.cons (dw1.mono (Ext.new (ok3.fnone hT)) List.prefix_rfl) (.cons (dw2.mono (Ext.new (ok3.fnone hT)) List.prefix_rfl) .nil))⟩
    · rw [List.length_map, List.length_zip, l5.length, l6.length]
      omega
  · exact False.elim h2)
theorem gi_str (ha : PE X e (tD X.K ct W me)) : PI X tg e (tI X.K ct W (itStr me)) := PI.imp (pi_str ha) (by
  rintro σ H R ⟨F, as, env, cs, ok, sl, h⟩
  refine ⟨F, as, env, cs, ok, sl, out_imp (out_bnd h) fun d cs1 F1 H1 as1 g ok1 h1 v hv => ?_⟩
  split at h1
  · rename_i z
    cases hv
    refine ⟨z, rfl, out_ok ok1 h1 _ (itOk_const (fun i d h _ => ?_) (fun i d h H x H3 y => ?_) fun _ => ?_)⟩
    · rw [List.getElem?_map] at h
      show i < z.cps.size
      by_cases hi : i < z.cps.size
      · exact hi
      · rw [List.getElem?_eq_none (by simpa using Nat.le_of_not_lt hi)] at h
        cases h
    · obtain ⟨e, c, hc, ex⟩ := y
      subst ex
      refine ⟨e, fun _ _ => ?_⟩
      rw [List.getElem?_map, Array.getElem?_toList, hc] at h
      have ed : D.str ⟨#[c]⟩ = d := Option.some.inj h
      subst ed
      exact .str _
    · show z.cps.size ≤ _
      simp
  · exact False.elim h1)
end
/-! ### comprehensions -/
def guardM (live : Cs → Bool) {α : Type} (m : M α) : M α := fun cs => if live cs = true then m cs else .no
def lcGo (live : Cs → Bool) (t : Tg) (tt : En → M Bool) (te : En → M D) (env : En) : List D → M (List D)
  | [] => guardM live (M.ret [])
  | x :: r => guardM live (match tgS t x env with
    | some env1 => M.bnd (tt env1) fun b => if b = true then M.bnd (te env1) fun y => M.bnd (lcGo live t tt te env r) fun ys => M.ret (y :: ys) else lcGo live t tt te env r
    | none => M.no)
def bYes : En → M Bool := fun _ => M.ret true
def xLc (c : Bool) (it : En → M It0) (own : List Nat) (t : Tg) (tt : En → M Bool) (te : En → M D) : En → M D := fun env => M.bnd (it env) fun i =>
  if szOk i.items.length = true then M.bnd (lcGo i.live t tt te (wip env own) i.items) fun ys => mkL c ys else M.no
theorem out_guard {α : Type} {K : PySem.W.Frag} {ct : Ct} {W : WX} {n : Nat} {F H : Hp} {as : List Addr} {live : Cs → Bool} {m : M α} {cs : Cs} {P : α → Cs → Hp → Hp → List Addr → Prop} (h : out K ct W n F H as (guardM live m cs) P) : live cs = true ∧ out K ct W n F H as (m cs) P := by
  unfold guardM at h
  by_cases q : live cs = true
  · rw [if_pos q] at h
    exact ⟨q, h⟩
  · rw [if_neg q] at h
    exact False.elim h
def W0 : WX := fun _ _ _ _ => False
/-- no exception is wished for where none comes -/
def calmM {α : Type} (r : Rs α) : Prop := ∀ x cs, r ≠ .ex x cs
theorem getElem_drop {α : Type} {xs r : List α} {i : Nat} {x : α} (h : xs.drop i = x :: r) : xs[i]? = some x ∧ xs.drop (i + 1) = r ∧ i < xs.length := by
  have hi : i < xs.length := by
    by_cases q : i < xs.length
    · exact q
    · rw [List.drop_eq_nil_of_le (Nat.le_of_not_lt q)] at h
      cases h
  rw [List.drop_eq_getElem_cons hi] at h
  obtain ⟨h1, h2⟩ := List.cons.inj h
  exact ⟨by rw [List.getElem?_eq_getElem hi, h1], h2, hi⟩
theorem drop_nil {α : Type} {xs : List α} {i : Nat} (h : xs.drop i = []) (hi : i ≤ xs.length) : i = xs.length := by
  have := congrArg List.length h
  rw [List.length_drop] at this
  simp at this
  omega
/-- exceptions turned to nothing -/
def noX {α : Type} (m : M α) : M α := fun cs => match m cs with
  | .ok a cs' => .ok a cs'
  | _ => .no
theorem out_noX {α : Type} {K : PySem.W.Frag} {ct : Ct} {W W' : WX} {n n' : Nat} {F H : Hp} {as : List Addr} {m : M α} {cs : Cs} {P : α → Cs → Hp → Hp → List Addr → Prop} (h : out K ct W n F H as (noX m cs) P) : out K ct W' n' F H as (m cs) P := by
  unfold noX at h
  cases q : m cs with
  | ok a cs' =>
    rw [q] at h
    exact h
  | ex x cs' =>
    rw [q] at h
    exact False.elim h
  | no =>
    rw [q] at h
    exact False.elim h
/-- one address left out -/
def rm (H : Hp) (A : Addr) : Hp := fun b => if b = A then none else H b
theorem rm_same {H : Hp} {A : Addr} : rm H A A = none := if_pos rfl
theorem upd_rm {H : Hp} {A : Addr} {o : HO} : upd (rm H A) A o = upd H A o := by
  funext b
  by_cases e : b = A
  · rw [e, upd_same, upd_same]
  · rw [upd_ne e, upd_ne e]
    exact if_neg e
theorem wipe_idem {σ : L2.St} {vs : List Nat} : wipe (wipe σ vs) vs = wipe σ vs := by
  apply List.ext_getElem?
  intro i
  rw [wipe_get, wipe_length]
  by_cases c : i ∈ vs ∧ i < σ.length
  · rw [if_pos c, wipe_get, if_pos c]
  · rw [if_neg c]
theorem rm_ne {H : Hp} {A b : Addr} (h : b ≠ A) : rm H A b = H b := if_neg h
section
variable {K : PySem.W.Frag} {ct : Ct} {F H F3 H3 : Hp} {as as3 : List Addr} {cs cs3 : Cs} {A : Addr} {o : HO}
theorem hide_gro (ok : Ok K F H as cs) (hA : H A = none) (g : Gro F (upd H A o) as F3 H3 as3) (ok3 : Ok K F3 H3 as3 cs3) : H3 = upd (rm H3 A) A o ∧ Gro F H as F3 (rm H3 A) as3 ∧ Ok K F3 (rm H3 A) as3 cs3 := by
  have nA : A ∉ as := ok.out hA
  have h3 : H3 A = some o := g.hh A o upd_same nA
  have nA3 : A ∉ as3 := fun m => (g.an A m).elim nA fun z => by
    rw [upd_same] at z
    cases z
  have fA : F3 A = none := by
    rw [g.fn A (by rw [upd_same]; exact fun z => nomatch z)]
    exact ok.fnone hA
  refine ⟨?_, ⟨g.ff, fun p hp => ?_, fun p u hp hn => ?_, fun p hp => ?_, g.ap, fun p m => ?_⟩, ⟨fun p u hp => ?_, ok3.nd, ok3.len, fun i a xs ha hx => ?_⟩⟩
  · funext b
    by_cases e : b = A
    · rw [e, upd_same, h3]
    · rw [upd_ne e, rm_ne e]
  · have ne : p ≠ A := fun e => hp (by rw [e]; exact hA)
    exact g.fn p (by rw [upd_ne ne]; exact hp)
  · have ne : p ≠ A := ne_of_none hp hA
    rw [rm_ne ne]
    exact g.hh p u (by rw [upd_ne ne]; exact hp) hn
  · have ne : p ≠ A := fun e => hp (by rw [e]; exact hA)
    rw [rm_ne ne]
    exact g.hl p (by rw [upd_ne ne]; exact hp)
  · rcases g.an p m with z | z
    · exact .inl z
    · by_cases e : p = A
      · rw [e, upd_same] at z
        cases z
      · rw [upd_ne e] at z
        exact .inr z
  · have ne : p ≠ A := ne_of_none hp fA
    rw [rm_ne ne]
    exact ok3.fh p u hp
  · obtain ⟨h1, ys, h2, h4⟩ := ok3.cell i a xs ha hx
    have ne : a ≠ A := fun e => nA3 (by rw [← e]; exact List.mem_of_getElem? ha)
    exact ⟨h1, ys, by rw [rm_ne ne]; exact h2, h4⟩
theorem xrel_rm {x : Exn} {c : Value} {d : Option Addr} {zs : List V} (h : XRel ct H x c d) (hA : H A = some (.lst zs)) : XRel ct (rm H A) x c d := by
  cases x with
  | net o =>
    obtain ⟨e, dd, fs, h1, h2, h3⟩ := h
    refine ⟨e, dd, fs, h1, ?_, h3⟩
    rw [rm_ne fun q => ?_]
    · exact h2
    · rw [q, hA] at h2
      cases h2
  | _ => exact h
theorem out_hide {α : Type} {n : Nat} {r : Rs α} {P : α → Cs → Hp → Hp → List Addr → Prop} {zs : List V} (ok : Ok K F H as cs) (hA : H A = none) (h : out K ct W0 n F H as r P) :
    out K ct W0 n F (upd H A (.lst zs)) as r fun a cs F3 H3 as3 => H3 = upd (rm H3 A) A (.lst zs) ∧ Gro F H as F3 (rm H3 A) as3 ∧ Ok K F3 (rm H3 A) as3 cs ∧ P a cs F3 (rm H3 A) as3 := by
  cases r with
  | ok a cs' =>
    intro F3 H3 as3 g ok3
    obtain ⟨e, g3, o3⟩ := hide_gro ok hA g ok3
    exact ⟨e, g3, o3, h _ _ _ g3 o3⟩
  | ex x cs' =>
    intro c d σ' F3 H3 as3 l g ok3 hx
    obtain ⟨e, g3, o3⟩ := hide_gro ok hA g ok3
    exact h c d σ' F3 (rm H3 A) as3 l g3 o3 (xrel_rm hx (by rw [e, upd_same]))
  | no => exact h
end
def xLcN (c : Bool) (it : En → M It0) (own : List Nat) (t : Tg) (tt : En → M Bool) (te : En → M D) : En → M D := fun env => M.bnd (it env) fun i =>
  if szOk i.items.length = true then M.bnd (noX (lcGo i.live t tt te (wip env own) i.items)) fun ys => mkL c ys else M.no
section
variable {K : PySem.W.Frag} {ct : Ct} {W : WX}
theorem lc_of {c : Bool} {it : En → M It0} {own : List Nat} {t : Tg} {tt : En → M Bool} {te : En → M D} (ht : ∀ j ∈ t.slots, j ∈ own) {σ : L2.St} {H : Hp} {Q : VK} (h : tD K ct W (xLcN c it own t tt te) σ H Q) :
    tLc (tI K ct W it) (tgR K t) (tT K ct W0 tt) (tD K ct W0 te) own σ H Q := by
  obtain ⟨F, as, env, cs, ok, sl, h⟩ := h
  refine ⟨F, as, env, cs, ok, sl, out_imp (out_bnd h) fun i cs1 F1 H1 as1 g1 ok1 h1 J hJ A hA => ?_⟩
  split at h1
  · rename_i hz
    have h2 := out_noX (W' := W0) (n' := σ.length) (out_bnd h1)
    have slw : Sl K F1 as1 (wipe σ own) (wip env own) := (sl.gro g1).wip own
    refine ⟨fun k m H' => m = i.items.length - k ∧ k ≤ i.items.length ∧ ∃ F2 H2 as2 cs2 ys ds, Gro F1 H1 as1 F2 H2 as2 ∧ Ok K F2 H2 as2 cs2 ∧ H2 A = none ∧ H' = upd H2 A (.lst ys) ∧ DvL K F2 as2 ys ds ∧ ys.length ≤ k ∧
        out K ct W0 σ.length F2 H2 as2 (lcGo i.live t tt te (wip env own) (i.items.drop k) cs2) fun zs cs3 F3 H3 as3 => out K ct W σ.length F3 H3 as3 (mkL c (ds ++ zs) cs3) (oD K Q),
      ⟨i.items.length, by simp, Nat.zero_le _, F1, H1, as1, cs1, [], [], Gro.refl _ _ _, ok1, hA, rfl, .nil, Nat.le_refl _, h2⟩, ?_⟩
    rintro k m H' ⟨rfl, hk, F2, H2, as2, cs2, ys, ds, g2, ok2, hA2, rfl, l2, hl, h3⟩
    cases q : i.items.drop k with
    | nil =>
      rw [q] at h3
      obtain ⟨lv, h3⟩ := out_guard h3
      have ek := drop_nil q hk
      have okA := ok_out (.lst ys) ok2 hA2
      have st := (hJ F2 (upd H2 A (.lst ys)) as2 cs2 (g2.trans (gro_out _ ok2 hA2)) okA lv).2
      refine .inl ⟨by rw [ek]; exact st, ?_⟩
      have h4 := out_ok ok2 h3
      rw [List.append_nil] at h4
      exact new_mk ok2 l2 h4 A hA2
    | cons x r =>
      rw [q] at h3
      obtain ⟨hx, hr, hlt⟩ := getElem_drop q
      obtain ⟨lv, h3⟩ := out_guard h3
      have okA := ok_out (.lst ys) ok2 hA2
      have gA := gro_out (.lst ys) ok2 hA2
      obtain ⟨go, yl⟩ := (hJ F2 _ as2 cs2 (g2.trans gA) okA lv).1 k x hx
      refine .inr ⟨go, fun H' => k + 1 ≤ i.items.length ∧ ∃ F2 H2 as2 cs2 ys ds, Gro F1 H1 as1 F2 H2 as2 ∧ Ok K F2 H2 as2 cs2 ∧ H2 A = none ∧ H' = upd H2 A (.lst ys) ∧ DvL K F2 as2 ys ds ∧ ys.length ≤ k + 1 ∧
        out K ct W0 σ.length F2 H2 as2 (lcGo i.live t tt te (wip env own) (i.items.drop (k + 1)) cs2) fun zs cs3 F3 H3 as3 => out K ct W σ.length F3 H3 as3 (mkL c (ds ++ zs) cs3) (oD K Q),
        fun H' hN => ⟨i.items.length - (k + 1), by omega, rfl, hN⟩, fun v H3 hy => ?_⟩
      obtain ⟨F3, g3, ok3, dv⟩ := yl v H3 hy
      obtain ⟨e3, g3', ok3'⟩ := hide_gro ok2 hA2 g3 ok3
      have slw3 : Sl K F3 as2 (wipe σ own) (wip env own) := (slw.gro g2).gro g3'
      cases q2 : tgS t x (wip env own) with
      | none =>
        rw [q2] at h3
        exact False.elim h3
      | some env1 =>
        rw [q2] at h3
        obtain ⟨σ2, sl2, len2, wp2, tq⟩ := tg_ok ok3 dv slw3 q2
        refine tq _ ⟨?_, ?_⟩
        · rw [wp2 own ht, wipe_idem]
        · have hl2 : σ2.length = σ.length := by rw [len2, wipe_length]
          refine ⟨F3, as2, env1, cs2, ok3, sl2, ?_⟩
          rw [e3, hl2]
          refine out_imp (out_hide ok3' rm_same (out_bnd (out_mono g3' h3))) fun b cs4 F4 H4 as4 _ ok4 h4 => ?_
          obtain ⟨e4, g4, ok4', h4⟩ := h4
          cases b with
          | true =>
            rw [if_pos rfl] at h4 ⊢
            refine ⟨F4, as4, env1, cs4, ok4, sl2.gro g4, ?_⟩
            rw [e4, hl2]
            refine out_imp (out_hide ok4' rm_same (out_bnd h4)) fun y cs5 F5 H5 as5 _ ok5 h5 w hw => ?_
            obtain ⟨e5, g5, ok5', h5⟩ := h5
            refine ⟨ys, by rw [e5, upd_same], Nat.lt_of_le_of_lt hl (Nat.lt_of_lt_of_le hlt (szOk_le hz)), by omega, F5, rm H5 A, as5, cs5, ys ++ [w], ds ++ [y], ((g2.trans g3').trans g4).trans g5, ok5', rm_same, ?_, ((((l2.gro g3').gro g4).gro g5)).append (.cons hw .nil), by rw [List.length_append]; exact Nat.succ_le_succ hl, ?_⟩
            · exact upd_rm.symm
            · rw [hr]
              refine out_imp (out_bnd h5) fun zs cs6 F6 H6 as6 _ ok6 h6 => ?_
              have h7 := out_ok ok6 h6
              rw [List.append_assoc]
              exact h7
          | false =>
            rw [if_neg Bool.false_ne_true] at h4 ⊢
            exact ⟨by omega, F4, rm H4 A, as4, cs4, ys, ds, (g2.trans g3').trans g4, ok4', rm_same, e4, (l2.gro g3').gro g4, Nat.le_succ_of_le hl, by rw [hr]; exact h4⟩
  · exact False.elim h1
end
end G
/-! G4: statements. -/
namespace G
open L2 PySem PySem.Spec PyProof.Rows
section
variable {X : Cx} {ct : Ct} {W : WX} {pos : Pos}
/-! ### comprehensions, as rules -/
theorem gts_nil : PTs X [] (tT X.K ct W bYes) := ⟨fun pins s σ H Q I h => pts_nil.run pins s σ H Q I (by
  obtain ⟨F, as, env, cs, ok, sl, h⟩ := h
  exact out_ok ok h)⟩
theorem gts_one {c : Expr} {b : En → M Bool} (h : PT X c (tT X.K ct W b)) : PTs X [c] (tT X.K ct W b) := pts_one h
theorem ge_lc (c : Bool) {elt tg iter : Expr} {ifs : List Expr} {scope : Scope} {own : List (Str × Nat)} {it : En → M It0} {t : Tg} {tt : En → M Bool} {te : En → M D} (hc : X.calm = true) (hN : X.N.Nodup) (hi : PI X tg iter (tI X.K ct W it)) (ok : BlkOk X.N X.env.scope scope own) (hsl : ∀ j ∈ t.slots, j ∈ own.map (·.2))
    (hg : ∀ (s : Shared) (H : Hp) (C : Addr) (cl : List (Str × Addr)) (fp : List Addr), PG (X.blk s H scope (compEnvC scope cl C X.env) fp) tg (tgR X.K t)) (ht : ∀ (s : Shared) (H : Hp) (C : Addr) (cl : List (Str × Addr)) (fp : List Addr), PTs (X.blk s H scope (compEnvC scope cl C X.env) fp) ifs (tT X.K ct W0 tt))
    (he : ∀ (s : Shared) (H : Hp) (C : Addr) (cl : List (Str × Addr)) (fp : List Addr), PE (X.blk s H scope (compEnvC scope cl C X.env) fp) elt (tD X.K ct W0 te)) (hs : ∀ x, foldedSetIterable iter X.env x = pure x := by intro _; rfl) :
    PE X (.ListComp elt [⟨tg, iter, ifs, 0⟩] scope pos) (tD X.K ct W (xLcN c it (own.map (·.2)) t tt te)) := PE.imp (pe_lc hc hN hi ok hg ht he hs) fun _ _ _ h => lc_of hsl h
/-! ### statements -/
def sSeq (a b : En → M Fl) : En → M Fl := fun env => M.bnd (a env) fun f => match f with
  | .nx e => b e
  | f => M.ret f
def sSkip : En → M Fl := fun env => M.ret (.nx env)
variable {st : Stmt} {rest body els : List Stmt} {e : Expr} {a b : En → M Fl} {m : En → M D}
theorem seq_of {K : PySem.W.Frag} {D : Ends} {σ : L2.St} {H : Hp} (h : tS K ct W (sSeq a b) D σ H) : tSeq (tS K ct W a) (tS K ct W b) D σ H := by
  obtain ⟨F, as, env, cs, ok, sl, h⟩ := h
  refine ⟨F, as, env, cs, ok, sl, out_imp (out_bnd h) fun f cs1 F1 H1 as1 g ok1 h1 => ?_⟩
  cases f with
  | nx env' =>
    intro σ' hl sl'
    refine ⟨F1, as1, env', cs1, ok1, sl', ?_⟩
    rw [hl]
    exact h1
  | rt d => exact h1 F1 H1 as1 (Gro.refl F1 H1 as1) ok1
  | bk env' => exact h1 F1 H1 as1 (Gro.refl F1 H1 as1) ok1
  | ct env' => exact h1 F1 H1 as1 (Gro.refl F1 H1 as1) ok1
theorem gs_cons (h1 : PS X st (tS X.K ct W a)) (h2 : PSs X rest (tS X.K ct W b)) : PSs X (st :: rest) (tS X.K ct W (sSeq a b)) := PSs.imp (pss_cons h1 h2) fun _ _ _ => seq_of
theorem gs_one (h : PS X st (tS X.K ct W a)) : PSs X [st] (tS X.K ct W a) := pss_one h
theorem gs_nil : PSs X [] (tS X.K ct W sSkip) := PSs.imp pss_nil (by
  rintro D σ H ⟨F, as, env, cs, ok, sl, h⟩
  exact out_ok ok h σ rfl sl)
/-- x = e, a, b = e -/
def sAsg (m : En → M D) (t : Tg) : En → M Fl := fun env => M.bnd (m env) fun d => match tgS t d env with
  | some e => M.ret (.nx e)
  | none => M.no
theorem asg_of {K : PySem.W.Frag} {t : Tg} {te : TE} {D : Ends} {σ : L2.St} {H : Hp} (k : ∀ Q, tD K ct W m σ H Q → te σ H Q) (h : tS K ct W (sAsg m t) D σ H) : tAsg te (tgR K t) D σ H := by
  obtain ⟨F, as, env, cs, ok, sl, h⟩ := h
  refine k _ ⟨F, as, env, cs, ok, sl, out_imp (out_bnd h) fun d cs1 F1 H1 as1 g ok1 h1 v hv => ?_⟩
  cases q : tgS t d env with
  | none =>
    rw [q] at h1
    exact False.elim h1
  | some env1 =>
    rw [q] at h1
    obtain ⟨σ', sl', hl, _, tq⟩ := tg_ok ok1 hv (sl.gro g) q
    exact tq _ (out_ok ok1 h1 σ' hl sl')
theorem gs_asg {t : Tg} (h : PS X st (tAsg (tD X.K ct W m) (tgR X.K t))) : PS X st (tS X.K ct W (sAsg m t)) := PS.imp h fun _ _ _ h => asg_of (fun _ q => q) h
theorem gs_lc {i : Nat} {c : Bool} {own : List (Str × Nat)} {it : En → M It0} {t : Tg} {tt : En → M Bool} {te : En → M D} (hsl : ∀ j ∈ t.slots, j ∈ own.map (·.2)) (h : PS X st (tAsg (tLc (tI X.K ct W it) (tgR X.K t) (tT X.K ct W0 tt) (tD X.K ct W0 te) (own.map (·.2))) (gName i))) : PS X st (tS X.K ct W (sAsg (xLcN c it (own.map (·.2)) t tt te) (.nm i))) :=
  PS.imp h fun _ _ _ h => asg_of (t := .nm i) (fun _ q => lc_of hsl q) h
/-- an expression alone -/
def sDrop (m : En → M D) : En → M Fl := fun env => M.bnd (m env) fun _ => M.ret (.nx env)
theorem gs_drop (he : PE X e (tD X.K ct W m)) (hs : swapsWith e none pos.line X.env = pure false := by rfl) : PS X (.Expr e pos) (tS X.K ct W (sDrop m)) := PS.imp (ps_expr he hs) (by
  rintro D σ H ⟨F, as, env, cs, ok, sl, h⟩
  exact ⟨F, as, env, cs, ok, sl, out_imp (out_bnd h) fun d cs1 F1 H1 as1 g ok1 h1 v hv => out_ok ok1 h1 σ rfl (sl.gro g)⟩)
def sRet (m : En → M D) : En → M Fl := fun env => M.bnd (m env) fun d => M.ret (.rt d)
theorem gs_ret (he : PE X e (tD X.K ct W m)) : PS X (.Return (some e) pos) (tS X.K ct W (sRet m)) := PS.imp (ps_ret he) (by
  rintro D σ H ⟨F, as, env, cs, ok, sl, h⟩
  exact ⟨F, as, env, cs, ok, sl, out_imp (out_bnd h) fun d cs1 F1 H1 as1 g ok1 h1 v hv => out_ok ok1 h1 v hv⟩)
def sIf (t : En → M Bool) (a b : En → M Fl) : En → M Fl := fun env => M.bnd (t env) fun k => if k = true then a env else b env
theorem gs_if {c : Expr} {t : En → M Bool} (hc : PT X c (tT X.K ct W t)) (ha : PSs X body (tS X.K ct W a)) (hb : PSs X els (tS X.K ct W b)) : PS X (.If c body els pos) (tS X.K ct W (sIf t a b)) := PS.imp (ps_if hc ha hb) (by
  rintro D σ H ⟨F, as, env, cs, ok, sl, h⟩
  refine ⟨F, as, env, cs, ok, sl, out_imp (out_bnd h) fun k cs1 F1 H1 as1 g ok1 h1 => ?_⟩
  cases k with
  | true => exact ⟨F1, as1, env, cs1, ok1, sl.gro g, h1⟩
  | false => exact ⟨F1, as1, env, cs1, ok1, sl.gro g, h1⟩)
/-- while, by fuel -/
def sWhile (t : En → M Bool) (b : En → M Fl) : Nat → En → M Fl
  | 0 => fun _ => M.no
  | n + 1 => fun env => M.bnd (t env) fun k => if k = true then M.bnd (b env) fun f => match f with
    | .nx e => sWhile t b n e
    | .ct e => sWhile t b n e
    | .bk e => M.ret (.nx e)
    | .rt d => M.ret (.rt d)
    else M.ret (.nx env)
theorem gs_while (n : Nat) {c : Expr} {t : En → M Bool} (hp : PassesOwn (model X.prog X.w) X.A X.env X.xe) (hc : PT X c (tT X.K ct W t)) (hb : PSs X body (tS X.K ct W b)) : PS X (.While c body [] pos) (tS X.K ct W (sWhile t b n)) := PS.imp (ps_while hp hc hb) (by
  intro D σ H h
  refine ⟨fun k σ' H' => σ'.length = σ.length ∧ tS X.K ct W (sWhile t b k) D σ' H', ⟨n, rfl, h⟩, ?_⟩
  rintro k σ' H' ⟨hl, F, as, env, cs, ok, sl, h⟩
  cases k with
  | zero => exact False.elim h
  | succ k =>
    refine ⟨F, as, env, cs, ok, sl, out_imp (out_bnd h) fun q cs1 F1 H1 as1 g ok1 h1 => ?_⟩
    cases q with
    | false => exact out_ok ok1 h1 σ' rfl (sl.gro g)
    | true =>
      rw [if_pos rfl] at h1 ⊢
      refine ⟨fun σ2 H2 => σ2.length = σ.length ∧ tS X.K ct W (sWhile t b k) D σ2 H2, fun σ2 H2 z => ⟨k, Nat.lt_succ_self k, z⟩, F1, as1, env, cs1, ok1, sl.gro g, out_imp (out_bnd h1) fun f cs2 F2 H2 as2 g2 ok2 h2 => ?_⟩
      cases f with
      | nx e => exact fun σ2 hl2 sl2 => ⟨hl2.trans hl, F2, as2, e, cs2, ok2, sl2, by rw [hl2]; exact h2⟩
      | ct e => exact fun σ2 hl2 sl2 => ⟨hl2.trans hl, F2, as2, e, cs2, ok2, sl2, by rw [hl2]; exact h2⟩
      | bk e =>
        intro σ2 hl2 sl2
        exact h2 F2 H2 as2 (Gro.refl F2 H2 as2) ok2 σ2 hl2 sl2
      | rt d => exact h2 F2 H2 as2 (Gro.refl F2 H2 as2) ok2)
/-- for -/
def forGo (live : Cs → Bool) (t : Tg) (b : En → M Fl) : List D → En → M Fl
  | [], env => guardM live (M.ret (.nx env))
  | x :: r, env => guardM live (match tgS t x env with
    | some env1 => M.bnd (b env1) fun f => match f with
      | .nx e => forGo live t b r e
      | .ct e => forGo live t b r e
      | .bk e => M.ret (.nx e)
      | .rt d => M.ret (.rt d)
    | none => M.no)
def sFor (it : En → M It0) (t : Tg) (b : En → M Fl) : En → M Fl := fun env => M.bnd (it env) fun i => forGo i.live t b i.items env
theorem gs_for {tg iter : Expr} {it : En → M It0} {t : Tg} (hp : PassesOwn (model X.prog X.w) X.A X.env X.xe) (hc : X.calm = true) (hi : PI X tg iter (tI X.K ct W it)) (hg : PG X tg (tgR X.K t)) (hb : PSs X body (tS X.K ct W b)) (hs : ∀ x, foldedSetIterable iter X.env x = pure x := by intro _; rfl) :
    PS X (.For tg iter body [] pos) (tS X.K ct W (sFor it t b)) := PS.imp (ps_for hp hc hi hg hb hs) (by
  rintro D σ H ⟨F, as, env, cs, ok, sl, h⟩
  refine ⟨F, as, env, cs, ok, sl, out_imp (out_bnd h) fun i cs1 F1 H1 as1 g1 ok1 h1 J hJ => ?_⟩
  refine ⟨fun k m σ' H' => m = i.items.length - k ∧ k ≤ i.items.length ∧ σ'.length = σ.length ∧ ∃ F2 as2 env2 cs2, Gro F1 H1 as1 F2 H' as2 ∧ Ok X.K F2 H' as2 cs2 ∧ Sl X.K F2 as2 σ' env2 ∧ out X.K ct W σ.length F2 H' as2 (forGo i.live t b (i.items.drop k) env2 cs2) (oS X.K σ.length D),
    ⟨i.items.length, by simp, Nat.zero_le _, rfl, F1, as1, env, cs1, Gro.refl _ _ _, ok1, sl.gro g1, h1⟩, ?_⟩
  rintro k m σ' H' ⟨rfl, hk, hl, F2, as2, env2, cs2, g2, ok2, sl2, h2⟩
  cases q : i.items.drop k with
  | nil =>
    rw [q] at h2
    obtain ⟨lv, h2⟩ := out_guard h2
    have ek := drop_nil q hk
    exact .inl ⟨by rw [ek]; exact (hJ F2 H' as2 cs2 g2 ok2 lv).2, out_ok ok2 h2 σ' hl sl2⟩
  | cons x r =>
    rw [q] at h2
    obtain ⟨hx, hr, hlt⟩ := getElem_drop q
    obtain ⟨lv, h2⟩ := out_guard h2
    obtain ⟨go, yl⟩ := (hJ F2 H' as2 cs2 g2 ok2 lv).1 k x hx
    refine .inr ⟨go, fun σ3 H3 => k + 1 ≤ i.items.length ∧ σ3.length = σ.length ∧ ∃ F2 as2 env2 cs2, Gro F1 H1 as1 F2 H3 as2 ∧ Ok X.K F2 H3 as2 cs2 ∧ Sl X.K F2 as2 σ3 env2 ∧ out X.K ct W σ.length F2 H3 as2 (forGo i.live t b (i.items.drop (k + 1)) env2 cs2) (oS X.K σ.length D),
      fun σ3 H3 z => ⟨i.items.length - (k + 1), by omega, rfl, z⟩, fun v H3 hy => ?_⟩
    obtain ⟨F3, g3, ok3, dv⟩ := yl v H3 hy
    cases q2 : tgS t x env2 with
    | none =>
      rw [q2] at h2
      exact False.elim h2
    | some env3 =>
      rw [q2] at h2
      obtain ⟨σ3, sl3, l3, _, tq⟩ := tg_ok ok3 dv (sl2.gro g3) q2
      have hl3 : σ3.length = σ.length := l3.trans hl
      refine tq _ ⟨F3, as2, env3, cs2, ok3, sl3, ?_⟩
      rw [hl3]
      refine out_imp (out_bnd (out_mono g3 h2)) fun f cs4 F4 H4 as4 g4 ok4 h4 => ?_
      cases f with
      | nx e => exact fun σ4 l4 sl4 => ⟨by omega, l4, F4, as4, e, cs4, (g2.trans g3).trans g4, ok4, sl4, by rw [hr]; exact h4⟩
      | ct e => exact fun σ4 l4 sl4 => ⟨by omega, l4, F4, as4, e, cs4, (g2.trans g3).trans g4, ok4, sl4, by rw [hr]; exact h4⟩
      | bk e => exact h4 F4 H4 as4 (Gro.refl F4 H4 as4) ok4
      | rt d => exact h4 F4 H4 as4 (Gro.refl F4 H4 as4) ok4)
/-! ### cells written -/
def cApp (i : Nat) (y : D) : M D := fun cs => match cs[i]? with
  | some xs => if szOk xs.length = true then .ok .non (cs.set i (xs ++ [y])) else .no
  | none => .no
def cPop (i : Nat) : M D := fun cs => match cs[i]? with
  | some xs => (match xs[xs.length - 1]? with
    | some y => .ok y (cs.set i xs.dropLast)
    | none => .no)
  | none => .no
def cPopAt (i : Nat) : D → M D
  | .int k => fun cs => match cs[i]? with
    | some xs => if decide (0 ≤ k ∧ k < xs.length ∧ k < 2 ^ 63) = true then (match xs[k.toNat]? with
      | some y => .ok y (cs.set i (xs.eraseIdx k.toNat))
      | none => .no) else .no
    | none => .no
  | _ => M.no
def xApp (o v : En → M D) : En → M D := fun env => M.bnd (o env) fun d => match d with
  | .ref i => M.bnd (v env) (cApp i)
  | _ => M.no
def xPop (o : En → M D) : En → M D := fun env => M.bnd (o env) fun d => match d with
  | .ref i => cPop i
  | _ => M.no
def xPopAt (o v : En → M D) : En → M D := fun env => M.bnd (o env) fun d => match d with
  | .ref i => M.bnd (v env) (cPopAt i)
  | _ => M.no
def sSetIx (v o i : En → M D) : En → M Fl := fun env => M.bnd (v env) fun y => M.bnd (o env) fun d => M.bnd (i env) fun k => match d, k with
  | .ref a, .int j => fun cs => match cs[a]? with
    | some xs => (match ixN xs.length j with
      | some n => .ok (.nx env) (cs.set a (xs.set n y))
      | none => .no)
    | none => .no
  | _, _ => M.no
variable {o i : Expr} {mo mi : En → M D} {apos : Pos}
theorem ref_at {K : PySem.W.Frag} {F H : Hp} {as : List Addr} {cs : Cs} {v : V} {i : Nat} {xs : List D} (ok : Ok K F H as cs) (h : Dv K F as v (.ref i)) (e : cs[i]? = some xs) : ∃ a ys, v = .ref a ∧ as[i]? = some a ∧ H a = some (.lst ys) ∧ DvL K F as ys xs := by
  cases h with
  | ref h1 =>
    obtain ⟨_, ys, h2, h3⟩ := ok.cell _ _ _ h1 e
    exact ⟨_, ys, rfl, h1, h2, h3⟩
theorem tyV_list {K : PySem.W.Frag} {H : Hp} {a : Addr} {ys : List V} (h : H a = some (.lst ys)) : tyV K "list" (.ref a) H := .inl ⟨rfl, ys, SqL.of h⟩
theorem tyV_ref {K : PySem.W.Frag} {F H : Hp} {as : List Addr} {cs : Cs} {v : V} {i : Nat} (ok : Ok K F H as cs) (h : Dv K F as v (.ref i)) : tyV K "list" v H := by
  cases h with
  | ref h1 =>
    obtain ⟨_, ys, h2⟩ := ok.old (List.mem_of_getElem? h1)
    exact tyV_list h2
theorem DvL.dropLast {K : PySem.W.Frag} {F : Hp} {as : List Addr} {vs : List V} {ds : List D} (h : DvL K F as vs ds) : DvL K F as vs.dropLast ds.dropLast := by
  rw [List.dropLast_eq_take, List.dropLast_eq_take, h.length]
  exact h.take _
theorem ge_app (ho : PE X o (tD X.K ct W mo)) (he : PE X e (tD X.K ct W m)) (hbase : attributeBase o "append" X.env (eval o X.env) = eval o X.env := by rfl)
    (hfew : ((backTo pos (starEach [e] X.env)).all (fun x => !x.1) && (backToKw pos (keywordEach [] X.env)).all (fun x => x.1.isSome) && decide (([e] : List Expr).length + ([] : List Keyword).length + (if ([] : List Keyword).isEmpty then 0 else 1) < 30)) = true := by rfl)
    (hline : (apos.endLine == pos.line) = true := by rfl) (hs : starEach [e] X.env = (false, eval e X.env) :: starEach [] X.env := by rfl) (hplain : (backTo pos (starEach [] X.env)).any (·.1) = false := by rfl) :
    PE X (.Call (.Attribute o "append" apos) [e] [] pos) (tD X.K ct W (xApp mo m)) := PE.imp (pe_bm PySem.F.plainAttrs_list PySem.F.slot_list_append PySem.F.type_list_append mt_append ho (pa_cons he pa_nil hs) hbase hfew hline hs hplain) (by
  rintro σ H Q ⟨F, as, env, cs, ok, sl, h⟩
  refine ⟨F, as, env, cs, ok, sl, out_imp (out_bnd h) fun d cs1 F1 H1 as1 g1 ok1 h1 v hv => ?_⟩
  split at h1
  · rename_i i
    refine ⟨tyV_ref ok1 hv, F1, as1, env, cs1, ok1, sl.gro g1, out_imp (out_bnd h1) fun y cs2 F2 H2 as2 g2 ok2 h2 u hu => ?_⟩
    unfold cApp at h2
    split at h2
    · split at h2
      · rename_i xs e1 q
        obtain ⟨a, ys, rfl, ha, hH, l⟩ := ref_at ok2 (hv.gro g2) e1
        exact ⟨a, ys, u, rfl, rfl, hH, by rw [l.length]; exact szOk_lt q, h2 _ _ as2 (gro_set _ ok2 ha hH) (ok_set ok2 ha (l.append (.cons hu .nil))) _ .non⟩
      · exact False.elim h2
    · exact False.elim h2
  · exact False.elim h1)
theorem ge_pop (ho : PE X o (tD X.K ct W mo)) (hbase : attributeBase o "pop" X.env (eval o X.env) = eval o X.env := by rfl) (hline : (apos.endLine == pos.line) = true := by rfl) :
    PE X (.Call (.Attribute o "pop" apos) [] [] pos) (tD X.K ct W (xPop mo)) := PE.imp (pe_bm0 PySem.F.plainAttrs_list PySem.F.slot_list_pop PySem.F.type_list_pop mt_pop ho hbase hline) (by
  rintro σ H Q ⟨F, as, env, cs, ok, sl, h⟩
  refine ⟨F, as, env, cs, ok, sl, out_imp (out_bnd h) fun d cs1 F1 H1 as1 g1 ok1 h1 v hv => ?_⟩
  split at h1
  · rename_i i
    refine ⟨tyV_ref ok1 hv, ?_⟩
    unfold cPop at h1
    split at h1
    · rename_i xs e1
      obtain ⟨a, ys, rfl, ha, hH, l⟩ := ref_at ok1 hv e1
      cases q : xs[xs.length - 1]? with
      | none =>
        rw [q] at h1
        exact False.elim h1
      | some y =>
        rw [q] at h1
        obtain ⟨w, hw, dw⟩ := l.get q
        exact ⟨a, ys, w, rfl, rfl, hH, by rw [l.length]; exact hw, h1 _ _ as1 (gro_set _ ok1 ha hH) (ok_set ok1 ha l.dropLast) _ dw⟩
    · exact False.elim h1
  · exact False.elim h1)
theorem ge_popAt (ho : PE X o (tD X.K ct W mo)) (he : PE X e (tD X.K ct W m)) (hbase : attributeBase o "pop" X.env (eval o X.env) = eval o X.env := by rfl)
    (hfew : ((backTo pos (starEach [e] X.env)).all (fun x => !x.1) && (backToKw pos (keywordEach [] X.env)).all (fun x => x.1.isSome) && decide (([e] : List Expr).length + ([] : List Keyword).length + (if ([] : List Keyword).isEmpty then 0 else 1) < 30)) = true := by rfl)
    (hline : (apos.endLine == pos.line) = true := by rfl) (hs : starEach [e] X.env = (false, eval e X.env) :: starEach [] X.env := by rfl) (hplain : (backTo pos (starEach [] X.env)).any (·.1) = false := by rfl) :
    PE X (.Call (.Attribute o "pop" apos) [e] [] pos) (tD X.K ct W (xPopAt mo m)) := PE.imp (pe_bm PySem.F.plainAttrs_list PySem.F.slot_list_pop PySem.F.type_list_pop mt_popAt ho (pa_cons he pa_nil hs) hbase hfew hline hs hplain) (by
  rintro σ H Q ⟨F, as, env, cs, ok, sl, h⟩
  refine ⟨F, as, env, cs, ok, sl, out_imp (out_bnd h) fun d cs1 F1 H1 as1 g1 ok1 h1 v hv => ?_⟩
  split at h1
  · rename_i i
    refine ⟨tyV_ref ok1 hv, F1, as1, env, cs1, ok1, sl.gro g1, out_imp (out_bnd h1) fun y cs2 F2 H2 as2 g2 ok2 h2 u hu => ?_⟩
    unfold cPopAt at h2
    split at h2
    · rename_i k
      try dsimp only at h2
      split at h2
      · split at h2
        · rename_i xs e1 q
          obtain ⟨q1, q2, q3⟩ := of_decide_eq_true q
          obtain ⟨a, ys, rfl, ha, hH, l⟩ := ref_at ok2 (hv.gro g2) e1
          cases hu
          cases q4 : xs[k.toNat]? with
          | none =>
            rw [q4] at h2
            exact False.elim h2
          | some y =>
            rw [q4] at h2
            obtain ⟨w, hw, dw⟩ := l.get q4
            exact ⟨a, ys, k, k.toNat, w, rfl, rfl, hH, by omega, q3, seqIndex_of q1 (by rw [l.length]; exact q2), hw, h2 _ _ as2 (gro_set _ ok2 ha hH) (ok_set ok2 ha (l.eraseIdx _)) _ dw⟩
        · exact False.elim h2
      · exact False.elim h2
    · exact False.elim h2
  · exact False.elim h1)
theorem gs_setIx (h : PS X st (tAsg (tD X.K ct W m) (gSub (tD X.K ct W mo) (tD X.K ct W mi) rSetL))) : PS X st (tS X.K ct W (sSetIx m mo mi)) := PS.imp h (by
  rintro D σ H ⟨F, as, env, cs, ok, sl, h⟩
  refine ⟨F, as, env, cs, ok, sl, out_imp (out_bnd h) fun y cs1 F1 H1 as1 g1 ok1 h1 v hv => ?_⟩
  refine ⟨F1, as1, env, cs1, ok1, sl.gro g1, out_imp (out_bnd h1) fun d cs2 F2 H2 as2 g2 ok2 h2 u hu => ?_⟩
  refine ⟨F2, as2, env, cs2, ok2, (sl.gro g1).gro g2, out_imp (out_bnd h2) fun k cs3 F3 H3 as3 g3 ok3 h3 w hw => ?_⟩
  split at h3
  · rename_i i j
    try dsimp only at h3
    split at h3
    · rename_i xs e1
      obtain ⟨a, ys, rfl, ha, hH, l⟩ := ref_at ok3 (hu.gro g3) e1
      cases hw
      cases q : ixN xs.length j with
      | none =>
        rw [q] at h3
        exact False.elim h3
      | some n =>
        rw [q] at h3
        have g4 := gro_set (.lst (ys.set n v)) ok3 ha hH
        exact ⟨a, ys, j, n, rfl, rfl, hH, by rw [l.length]; exact q, h3 _ _ as3 g4 (ok_set ok3 ha (l.set ((hv.gro g2).gro g3) n)) σ rfl (((sl.gro g1).gro g2).gro g3 |>.gro g4)⟩
    · exact False.elim h3
  · exact False.elim h3)
end
end G
/-! G5: defs, calls, refusals. -/
namespace G
open L2 PySem PySem.Spec PyProof.Rows
/-! ### cells resolved -/
mutual
def rsG (r : Nat → Option D) : D → Option D
  | .tup xs => (rsGL r xs).map .tup
  | .lst xs => (rsGL r xs).map .lst
  | .ref i => r i
  | .non => some .non
  | .bl b => some (.bl b)
  | .int i => some (.int i)
  | .str x => some (.str x)
  | .dic => some .dic
  | .scr ns => some (.scr ns)
def rsGL (r : Nat → Option D) : List D → Option (List D)
  | [] => some []
  | d :: ds => match rsG r d, rsGL r ds with
    | some p, some ps => some (p :: ps)
    | _, _ => none
end
def rsN (cs : Cs) : Nat → Nat → Option D
  | 0, _ => none
  | n + 1, i => match cs[i]? with
    | some xs => (rsGL (rsN cs n) xs).map .lst
    | none => none
def res (cs : Cs) (d : D) : Option D := rsG (rsN cs 3) d
open Classical in
noncomputable def frz (F H : Hp) (as : List Addr) : Hp := fun p => if p ∈ as then H p else F p
section
variable {K : PySem.W.Frag} {F H F0 H0 : Hp} {as : List Addr} {cs : Cs}
theorem frz_in {p : Addr} (h : p ∈ as) : frz F H as p = H p := if_pos h
theorem frz_out {p : Addr} (h : p ∉ as) : frz F H as p = F p := if_neg h
theorem ext_frz (ok : Ok K F H as cs) : Ext F (frz F H as) := fun p o h => by
  rw [frz_out fun m => by
    rw [(ok.old m).1] at h
    cases h]
  exact h
theorem frz_ext (ok : Ok K F H as cs) : Ext (frz F H as) H := fun p o h => by
  by_cases m : p ∈ as
  · rw [frz_in m] at h
    exact h
  · rw [frz_out m] at h
    exact ok.fh p o h
theorem ok_frz (ok : Ok K F H as cs) : Ok K (frz F H as) H [] [] := ⟨frz_ext ok, List.nodup_nil, rfl, fun i a xs h _ => by simp at h⟩
theorem gro_frz (ok : Ok K F H as cs) (g : Gro F0 H0 [] F H as) : Gro F0 H0 [] (frz F H as) H [] where
  ff := g.ff.trans (ext_frz ok)
  fn := fun p h => by
    rw [frz_out fun m => (g.an p m).elim (fun z => nomatch z) h]
    exact g.fn p h
  hh := g.hh
  hl := g.hl
  ap := List.prefix_rfl
  an := fun _ m => .inl m
mutual
theorem rsG_dv (ok : Ok K F H as cs) {r : Nat → Option D} (hr : ∀ i p a, r i = some p → as[i]? = some a → Dv K (frz F H as) [] (.ref a) p) : ∀ {v : V} {d p : D}, Dv K F as v d → rsG r d = some p → Dv K (frz F H as) [] v p
  | _, _, _, .non, e => by
    cases e
    exact .non
  | _, _, _, .bl b, e => by
    cases e
    exact .bl b
  | _, _, _, .int i, e => by
    cases e
    exact .int i
  | _, _, _, .str x, e => by
    cases e
    exact .str x
  | _, _, p, .tup (ds := ds) h l, e => by
    have e2 : (rsGL r ds).map D.tup = some p := e
    cases q : rsGL r ds with
    | none =>
      rw [q] at e2
      cases e2
    | some ps =>
      rw [q] at e2
      cases e2
      exact .tup (ext_frz ok _ _ h) (rsGL_dv ok hr l q)
  | _, _, p, .lst (ds := ds) h l, e => by
    have e2 : (rsGL r ds).map D.lst = some p := e
    cases q : rsGL r ds with
    | none =>
      rw [q] at e2
      cases e2
    | some ps =>
      rw [q] at e2
      cases e2
      exact .lst (ext_frz ok _ _ h) (rsGL_dv ok hr l q)
  | _, _, _, .ref h, e => hr _ _ _ e h
  | _, _, _, .dic h, e => by
    cases e
    exact .dic (ext_frz ok _ _ h)
  | _, _, _, .scr h, e => by
    cases e
    exact .scr (ext_l (ext_frz ok) h)
theorem rsGL_dv (ok : Ok K F H as cs) {r : Nat → Option D} (hr : ∀ i p a, r i = some p → as[i]? = some a → Dv K (frz F H as) [] (.ref a) p) : ∀ {vs : List V} {ds ps : List D}, DvL K F as vs ds → rsGL r ds = some ps → DvL K (frz F H as) [] vs ps
  | _, _, _, .nil, e => by
    cases e
    exact .nil
  | _, _, ps, .cons (d := d) (ds := ds) h t, e => by
    have e2 : (match rsG r d, rsGL r ds with
      | some p, some ps => some (p :: ps)
      | _, _ => none) = some ps := e
    split at e2
    · rename_i p qs e3 e4
      cases e2
      exact .cons (rsG_dv ok hr h e3) (rsGL_dv ok hr t e4)
    · cases e2
end
theorem rsN_dv (ok : Ok K F H as cs) : ∀ (n i : Nat) (p : D) (a : Addr), rsN cs n i = some p → as[i]? = some a → Dv K (frz F H as) [] (.ref a) p
  | 0, _, _, _, e, _ => by cases e
  | n + 1, i, p, a, e, ha => by
    have e2 : (match cs[i]? with
      | some xs => (rsGL (rsN cs n) xs).map D.lst
      | none => none) = some p := e
    cases hc : cs[i]? with
    | none =>
      rw [hc] at e2
      cases e2
    | some xs =>
      rw [hc] at e2
      have e3 : (rsGL (rsN cs n) xs).map D.lst = some p := e2
      obtain ⟨_, ys, h1, h2⟩ := ok.cell i a xs ha hc
      cases q : rsGL (rsN cs n) xs with
      | none =>
        rw [q] at e3
        cases e3
      | some ps =>
        rw [q] at e3
        cases e3
        exact .lst (by rw [frz_in (List.mem_of_getElem? ha)]; exact h1) (rsGL_dv ok (rsN_dv ok n) h2 q)
theorem res_dv (ok : Ok K F H as cs) {v : V} {d p : D} (h : Dv K F as v d) (e : res cs d = some p) : Dv K (frz F H as) [] v p := rsG_dv ok (rsN_dv ok 3) h e
/-! ### data without cells -/
mutual
def noR : D → Bool
  | .ref _ => false
  | .tup xs => noRL xs
  | .lst xs => noRL xs
  | _ => true
def noRL : List D → Bool
  | [] => true
  | d :: ds => noR d && noRL ds
end
mutual
theorem Dv.noR : ∀ {v : V} {d : D}, Dv K F as v d → G.noR d = true → Dv K F [] v d
  | _, _, .non, _ => .non
  | _, _, .bl b, _ => .bl b
  | _, _, .int i, _ => .int i
  | _, _, .str x, _ => .str x
  | _, _, .tup h l, e => .tup h (DvL.noR l e)
  | _, _, .lst h l, e => .lst h (DvL.noR l e)
  | _, _, .ref _, e => by cases e
  | _, _, .dic h, _ => .dic h
  | _, _, .scr h, _ => .scr h
theorem DvL.noR : ∀ {vs : List V} {ds : List D}, DvL K F as vs ds → G.noRL ds = true → DvL K F [] vs ds
  | _, _, .nil, _ => .nil
  | _, _, .cons h t, e => by
    obtain ⟨e1, e2⟩ := Bool.and_eq_true_iff.mp (show (G.noR _ && G.noRL _) = true from e)
    exact .cons (Dv.noR h e1) (DvL.noR t e2)
end
end
/-! ### what a def is worth -/
inductive Rp where
  | ok (d : D) | ex (x : Exn) | no
def up : Rp → M D
  | .ok d => M.ret d
  | .ex x => M.thr x
  | .no => M.no
def startE (k : Nat) (ds : List D) : En := ds.map some ++ List.replicate (k - ds.length) none
def runP (c : En → M Fl) (k : Nat) (ds : List D) : Rp := match c (startE k ds) [] with
  | .ok (.rt d) cs => (match res cs d with
    | some p => .ok p
    | none => .no)
  | .ok (.nx _) _ => .ok .non
  | .ok _ _ => .no
  | .ex x _ => .ex x
  | .no => .no
def runM (c : En → M Fl) (k : Nat) (ds : List D) : M D := M.bnd (c (startE k ds)) fun f => match f with
  | .rt d => M.ret d
  | .nx _ => M.ret .non
  | _ => M.no
def spM (K : PySem.W.Frag) (ct : Ct) (n : Nat) (f : List D → M D) : Sp := fun vs H Q E => ∃ F as ds cs, Ok K F H as cs ∧ DvL K F as vs ds ∧ ds.length = n ∧ out K ct (fun c d _ H => E c d H) 0 F H as (f ds cs) (oD K Q)
def spP (K : PySem.W.Frag) (ct : Ct) (n : Nat) (f : List D → Rp) : Sp := fun vs H Q E => ∃ F ds, Ok K F H [] [] ∧ DvL K F [] vs ds ∧ ds.length = n ∧ out K ct (fun c d _ H => E c d H) 0 F H [] (up (f ds) []) (oD K Q)
/-- its list is a new one, nobody else's -/
def oO (K : PySem.W.Frag) (H0 : Hp) (Q : VK) : D → Cs → Hp → Hp → List Addr → Prop := fun d _ F' H' as' => match d with
  | .lst xs => ∀ p ys, H0 p = none → F' p = none → H' p = some (.lst ys) → DvL K F' [] ys xs → Q (.ref p) H'
  | d => ∀ v, Dv K F' as' v d → Q v H'
def spO (K : PySem.W.Frag) (ct : Ct) (n : Nat) (f : List D → Rp) : Sp := fun vs H Q E => ∃ F ds, Ok K F H [] [] ∧ DvL K F [] vs ds ∧ ds.length = n ∧ out K ct (fun c d _ H => E c d H) 0 F H [] (up (f ds) []) (oO K H Q)
section
variable {P : Program} {w : World} {K : PySem.W.Frag} {mg : Str → Option Value} {base : Heap} {ct : Ct}
abbrev FnP (P : Program) (w : World) (K : PySem.W.Frag) (mg : Str → Option Value) (base : Heap) (k : Nat) (f : Addr) (fd : FuncData) (ps : List Str) (sp : Sp) : Prop := FnOk P w K mg base (L2.CX P w) k f fd ps sp
theorem spP_of_O {n : Nat} {f : List D → Rp} {vs : List V} {H : Hp} {Q : VK} {E : XK} (h : spP K ct n f vs H Q E) : spO K ct n f vs H Q E := by
  obtain ⟨F, ds, ok, hv, hl, h⟩ := h
  refine ⟨F, ds, ok, hv, hl, ?_⟩
  cases q : f ds with
  | no =>
    rw [q] at h
    exact h
  | ex x =>
    rw [q] at h
    exact h
  | ok d =>
    rw [q] at h
    intro F' H' as' g ok'
    have h2 := h
    cases d with
    | lst xs =>
      intro p ys hp fp hH hy
      have ea : as' = [] := List.eq_nil_of_length_eq_zero ok'.len
      subst ea
      have ok2 : Ok K (upd F' p (.lst ys)) H' [] [] := ⟨fun a u e => by
        by_cases q : a = p
        · rw [q, upd_same] at e
          cases e
          rw [q]
          exact hH
        · rw [upd_ne q] at e
          exact ok'.fh a u e, List.nodup_nil, rfl, fun i a xs z _ => by simp at z⟩
      have g2 : Gro F H [] (upd F' p (.lst ys)) H' [] := ⟨g.ff.trans (Ext.new fp), fun a ha => by
        rw [upd_ne fun e => ha (by rw [e]; exact hp)]
        exact g.fn a ha, g.hh, g.hl, g.ap, g.an⟩
      exact h2 _ _ [] g2 ok2 _ (.lst upd_same (hy.mono (Ext.new fp) List.prefix_rfl))
    | _ => exact fun v hv => h2 F' H' as' g ok' v hv
theorem FnOk.ofO {n k : Nat} {f : List D → Rp} {fa : Addr} {fd : FuncData} {ps : List Str} (h : FnP P w K mg base k fa fd ps (spO K ct n f)) : FnP P w K mg base k fa fd ps (spP K ct n f) := h.imp fun _ _ _ _ => spP_of_O
theorem ok_nil {K : PySem.W.Frag} {F H : Hp} {as : List Addr} {cs : Cs} (ok : Ok K F H as cs) : Ok K F H [] [] := ⟨ok.fh, List.nodup_nil, rfl, fun i a xs h _ => by simp at h⟩
abbrev FunG (K : PySem.W.Frag) (x : Str) (st : Stmt) (f : Addr) (fd : FuncData) : Prop := FunD K x x (defArgs st) (defBody st) (defScope st) [] [] f fd
/-- the context of a def's body -/
abbrev cxG (P : Program) (w : World) (K : PySem.W.Frag) (mg : Str → Option Value) (base : Heap) (N : List Str) (x : Str) (st : Stmt) (f : Addr) (cdv : Value) (A : Around) (outer : List Env) (s : Shared) (H : Hp) (E : XK) : Cx :=
  cxOf (L2.CX P w) P w K mg base N x (defScope st) f cdv A outer s H E
theorem start_of {N : List Str} {vs : List V} {ds : List D} {F : Hp} {as : List Addr} (h : DvL K F as vs ds) : Sl K F as (L2.start N vs) (startE N.length ds) := by
  unfold L2.start startE
  rw [h.length]
  exact Sl.start _ h
theorem def_P {x : Str} {st : Stmt} {f : Addr} {fd : FuncData} {N ps : List Str} {k n : Nat} {c : En → M Fl} (F : FunG K x st f fd) (S : FnScope N ps (defScope st)) (hn : ps.length = n)
    (body : ∀ (cdv : Value) (A : Around) (outer : List Env) (s : Shared) (H : Hp) (E : XK), Room k (A.deeper (envOfC x (defScope st) s.heap.objs.size f cdv)) → PSs (cxG P w K mg base N x st f cdv A outer s H E) (defBody st) (tS K ct (fun c d _ H => E c d H) c)) :
    FnP P w K mg base (k + 1) f fd ps (spP K ct n (runP c N.length)) := by
  refine F.ok S (fun vs H Q E h => ?_) (fun cdv A outer s H vs Q E hr h => ⟨_, body cdv A outer s H E hr, ?_⟩)
  · obtain ⟨_, _, _, hv, hl, _⟩ := h
    rw [hv.length, hl, hn]
  · obtain ⟨F', ds, ok, hv, hl, h⟩ := h
    refine ⟨F', [], startE N.length ds, [], ok, start_of hv, ?_⟩
    unfold runP at h
    cases q : c (startE N.length ds) [] with
    | no =>
      rw [q] at h
      exact h
    | ex e cs =>
      rw [q] at h
      intro c' d σ' F1 H1 as1 _ g ok1 hx
      have xr : XRel ct H1 e c' d := hx
      exact h c' d [] (frz F1 H1 as1) H1 [] rfl (gro_frz ok1 g) (ok_frz ok1) xr
    | ok fl cs =>
      rw [q] at h
      intro F1 H1 as1 g ok1
      cases fl with
      | nx e => exact fun σ' _ _ => h (frz F1 H1 as1) H1 [] (gro_frz ok1 g) (ok_frz ok1) _ .non
      | bk e => exact False.elim h
      | ct e => exact False.elim h
      | rt d =>
        intro v dv
        have h2 : out K ct (fun c d _ H => E c d H) 0 F' H [] (up (match res cs d with
          | some p => Rp.ok p
          | none => Rp.no) []) (oD K Q) := h
        cases q2 : res cs d with
        | none =>
          rw [q2] at h2
          exact False.elim h2
        | some p =>
          rw [q2] at h2
          exact h2 (frz F1 H1 as1) H1 [] (gro_frz ok1 g) (ok_frz ok1) v (res_dv ok1 dv q2)
theorem def_M {x : Str} {st : Stmt} {f : Addr} {fd : FuncData} {N ps : List Str} {k n : Nat} {c : En → M Fl} (F : FunG K x st f fd) (S : FnScope N ps (defScope st)) (hn : ps.length = n)
    (body : ∀ (cdv : Value) (A : Around) (outer : List Env) (s : Shared) (H : Hp) (E : XK), Room k (A.deeper (envOfC x (defScope st) s.heap.objs.size f cdv)) → PSs (cxG P w K mg base N x st f cdv A outer s H E) (defBody st) (tS K ct (fun c d _ H => E c d H) c)) :
    FnP P w K mg base (k + 1) f fd ps (spM K ct n (runM c N.length)) := by
  refine F.ok S (fun vs H Q E h => ?_) (fun cdv A outer s H vs Q E hr h => ⟨_, body cdv A outer s H E hr, ?_⟩)
  · obtain ⟨_, _, _, _, _, hv, hl, _⟩ := h
    rw [hv.length, hl, hn]
  · obtain ⟨F', as, ds, cs, ok, hv, hl, h⟩ := h
    refine ⟨F', as, startE N.length ds, cs, ok, start_of hv, ?_⟩
    have h2 : out K ct (fun c d _ H => E c d H) 0 F' H as (c (startE N.length ds) cs) _ := out_bnd h
    cases q : c (startE N.length ds) cs with
    | no =>
      rw [q] at h2
      exact h2
    | ex e cs2 =>
      rw [q] at h2
      exact fun c' d σ' F1 H1 as1 _ g ok1 hx => h2 c' d [] F1 H1 as1 rfl g ok1 hx
    | ok fl cs2 =>
      rw [q] at h2
      intro F1 H1 as1 g ok1
      have h3 := h2 F1 H1 as1 g ok1
      cases fl with
      | nx e => exact fun σ' _ _ => h3 F1 H1 as1 (Gro.refl _ _ _) ok1 _ .non
      | bk e => exact False.elim h3
      | ct e => exact False.elim h3
      | rt d => exact fun v dv => h3 F1 H1 as1 (Gro.refl _ _ _) ok1 v dv
def runO (c : En → M Fl) (k : Nat) (ds : List D) : Rp := match c (startE k ds) [] with
  | .ok (.rt (.ref i)) cs => (match cs[i]? with
    | some xs => if noRL xs = true then .ok (.lst xs) else .no
    | none => .no)
  | .ex x _ => .ex x
  | _ => .no
theorem def_O {x : Str} {st : Stmt} {f : Addr} {fd : FuncData} {N ps : List Str} {k n : Nat} {c : En → M Fl} (F : FunG K x st f fd) (S : FnScope N ps (defScope st)) (hn : ps.length = n)
    (body : ∀ (cdv : Value) (A : Around) (outer : List Env) (s : Shared) (H : Hp) (E : XK), Room k (A.deeper (envOfC x (defScope st) s.heap.objs.size f cdv)) → PSs (cxG P w K mg base N x st f cdv A outer s H E) (defBody st) (tS K ct (fun c d _ H => E c d H) c)) :
    FnP P w K mg base (k + 1) f fd ps (spO K ct n (runO c N.length)) := by
  refine F.ok S (fun vs H Q E h => ?_) (fun cdv A outer s H vs Q E hr h => ⟨_, body cdv A outer s H E hr, ?_⟩)
  · obtain ⟨_, _, _, hv, hl, _⟩ := h
    rw [hv.length, hl, hn]
  · obtain ⟨F', ds, ok, hv, hl, h⟩ := h
    refine ⟨F', [], startE N.length ds, [], ok, start_of hv, ?_⟩
    unfold runO at h
    cases q : c (startE N.length ds) [] with
    | no =>
      rw [q] at h
      exact h
    | ex e cs =>
      rw [q] at h
      intro c' d σ' F1 H1 as1 _ g ok1 hx
      exact h c' d [] (frz F1 H1 as1) H1 [] rfl (gro_frz ok1 g) (ok_frz ok1) hx
    | ok fl cs =>
      rw [q] at h
      cases fl with
      | nx e => exact False.elim h
      | bk e => exact False.elim h
      | ct e => exact False.elim h
      | rt d =>
        cases d with
        | ref i =>
          intro F1 H1 as1 g ok1 v dv
          have h2 : out K ct (fun c d _ H => E c d H) 0 F' H [] (up (match cs[i]? with
            | some xs => if noRL xs = true then Rp.ok (.lst xs) else Rp.no
            | none => Rp.no) []) (oO K H Q) := h
          cases q2 : cs[i]? with
          | none =>
            rw [q2] at h2
            exact False.elim h2
          | some xs =>
            rw [q2] at h2
            have h3 : out K ct (fun c d _ H => E c d H) 0 F' H [] (up (if noRL xs = true then Rp.ok (.lst xs) else Rp.no) []) (oO K H Q) := h2
            by_cases nr : noRL xs = true
            · rw [if_pos nr] at h3
              obtain ⟨a, ys, rfl, ha, hH, l⟩ := ref_at ok1 dv q2
              have m : a ∈ as1 := List.mem_of_getElem? ha
              have hn : H a = none := (g.an a m).elim (fun z => nomatch z) fun z => z
              have ok2 : Ok K F1 H1 [] [] := ok_nil ok1
              have g2 : Gro F' H [] F1 H1 [] := ⟨g.ff, g.fn, g.hh, g.hl, List.prefix_rfl, fun _ z => .inl z⟩
              exact h3 F1 H1 [] g2 ok2 a ys hn (ok1.old m).1 hH (l.noR nr)
            · rw [if_neg nr] at h3
              exact False.elim h3
        | _ => exact False.elim h
/-- a def that is never called -/
theorem fn_no {f : Addr} {fd : FuncData} {ps : List Str} {k n : Nat} (hn : ps.length = n) : FnP P w K mg base k f fd ps (spP K ct n fun _ => .no) := ⟨fun vs H Q E h => by
  obtain ⟨_, _, _, hv, hl, _⟩ := h
  rw [hv.length, hl, hn], fun _ _ _ _ _ _ _ _ _ _ _ _ _ h => by
  obtain ⟨_, _, _, _, _, h⟩ := h
  exact False.elim h⟩
/-- where a def stands, what it promises -/
def Dp' (P : Program) (w : World) (K : PySem.W.Frag) (mg : Str → Option Value) (base : Heap) (k : Nat) (x : Str) (ps : List Str) (sp : Sp) : Prop := ∃ fa fd, mg x = some (.ref fa) ∧ PySem.W.keepIn K (.ref fa) = true ∧ L2.Binds K fd ps [] ∧ FnP P w K mg base k fa fd ps sp
theorem Dp'.ofO {k n : Nat} {x : Str} {ps : List Str} {f : List D → Rp} (h : Dp' P w K mg base k x ps (spO K ct n f)) : Dp' P w K mg base k x ps (spP K ct n f) := by
  obtain ⟨fa, fd, a, b, c, d⟩ := h
  exact ⟨fa, fd, a, b, c, FnOk.ofO d⟩
end
/-! ### calls -/
def xCallM (f : List D → M D) (a : En → M (List D)) : En → M D := fun env => M.bnd (a env) f
def xCallP (f : List D → Rp) (a : En → M (List D)) : En → M D := fun env => M.bnd (a env) fun ds => if noRL ds = true then up (f ds) else M.no
def xCallO (f : List D → Rp) (a : En → M (List D)) : En → M D := fun env => M.bnd (a env) fun ds => if noRL ds = true then (match f ds with
  | .ok (.lst xs) => mkL true xs
  | r => up r) else M.no
section
variable {X : Cx} {ct : Ct} {W : WX} {k n : Nat} {fa : Addr} {fd : FuncData} {ps : List Str} {x : Str} {p pos : Pos} {e : Expr} {es : List Expr} {mas : En → M (List D)}
theorem gro_nil {K : PySem.W.Frag} {F H F' H' : Hp} {as : List Addr} {cs : Cs} (ok : Ok K F H as cs) (g : Gro F H [] F' H' []) (ok' : Ok K F' H' [] []) : Gro F H as F' H' as ∧ Ok K F' H' as cs := by
  refine ⟨⟨g.ff, g.fn, fun p o h _ => g.hh p o h (by simp), g.hl, List.prefix_rfl, fun _ m => .inl m⟩, ⟨ok'.fh, ok.nd, ok.len, fun i a xs ha hx => ?_⟩⟩
  obtain ⟨h1, ys, h2, h3⟩ := ok.cell i a xs ha hx
  exact ⟨by rw [g.fn a (by rw [h2]; exact fun z => nomatch z)]; exact h1, ys, g.hh a _ h2 (by simp), h3.mono g.ff List.prefix_rfl⟩
theorem ok_nil' {K : PySem.W.Frag} {F H : Hp} {as : List Addr} {cs : Cs} (ok : Ok K F H as cs) : Ok K F H [] [] := ⟨ok.fh, List.nodup_nil, rfl, fun i a xs h _ => by simp at h⟩
theorem ge_callM {f : List D → M D} (Fn : FnP X.prog X.w X.K X.mg X.base k fa fd ps (spM X.K ct n f)) (hr : Room k X.A) (tk : Takes X W) (hg : Gl X x) (hm : X.mg x = some (.ref fa)) (hk : PySem.W.keepIn X.K (.ref fa) = true) (hb : Binds X.K fd ps []) (hn : ∀ env cs ds cs', mas env cs = .ok ds cs' → ds.length = n)
    (ha : PA X (e :: es) (tA X.K ct W mas)) (hdb : (x == ("__debug__" : Str)) = false := by decide) (he : starEach (e :: es) X.env = (false, eval e X.env) :: starEach es X.env := by rfl) (hpl : (backTo pos (starEach es X.env)).any (·.1) = false := by rfl) :
    PE X (.Call (.Name x p) (e :: es) [] pos) (tD X.K ct W (xCallM f mas)) := PE.imp (pe_callS Fn hr hg hm hk hb (fun σ => passAt tk σ) ha hdb he hpl) (by
  rintro σ H Q ⟨F, as, env, cs, ok, sl, h⟩
  refine ⟨F, as, env, cs, ok, sl, ?_⟩
  have h2 := out_bnd h
  cases q : mas env cs with
  | no =>
    rw [q] at h2
    exact h2
  | ex y cs2 =>
    rw [q] at h2
    exact h2
  | ok ds cs2 =>
    rw [q] at h2
    intro F1 H1 as1 g1 ok1 vs hvs
    refine ⟨F1, as1, ds, cs2, ok1, hvs, hn env cs ds cs2 q, ?_⟩
    have h3 : out X.K ct W σ.length F1 H1 as1 (f ds cs2) (oD X.K Q) := h2 F1 H1 as1 g1 ok1
    cases q2 : f ds cs2 with
    | no =>
      rw [q2] at h3
      exact h3
    | ex y cs3 =>
      rw [q2] at h3
      exact fun c d σ' F2 H2 as2 _ g ok2 hx => h3 c d σ F2 H2 as2 rfl g ok2 hx
    | ok d cs3 =>
      rw [q2] at h3
      exact h3)
theorem callP_core {f : List D → Rp} {σ : L2.St} {H1 F1 : Hp} {as1 : List Addr} {cs1 : Cs} {vs : List V} {ds : List D} {Q : VK} (hlen : ds.length = n) (ok1 : Ok X.K F1 H1 as1 cs1) (hvs : DvL X.K F1 as1 vs ds) (nr : noRL ds = true)
    (h : out X.K ct W σ.length F1 H1 as1 (up (f ds) cs1) (oD X.K Q)) : spP X.K ct n f vs H1 Q (WE W σ) := by
  refine ⟨F1, ds, ok_nil ok1, hvs.noR nr, hlen, ?_⟩
  cases q : f ds with
  | no =>
    rw [q] at h
    exact h
  | ex y =>
    rw [q] at h
    intro c d σ' F2 H2 as2 _ g ok2 hx
    have ea : as2 = [] := List.eq_nil_of_length_eq_zero ok2.len
    subst ea
    obtain ⟨g3, ok3⟩ := gro_nil ok1 g ok2
    exact h c d σ F2 H2 as1 rfl g3 ok3 hx
  | ok d =>
    rw [q] at h
    intro F2 H2 as2 g ok2 v dv
    have ea : as2 = [] := List.eq_nil_of_length_eq_zero ok2.len
    subst ea
    obtain ⟨g3, ok3⟩ := gro_nil ok1 g ok2
    exact h F2 H2 as1 g3 ok3 v (dv.mono (Ext.refl _) (List.nil_prefix))
theorem ge_callP {f : List D → Rp} (Fn : FnP X.prog X.w X.K X.mg X.base k fa fd ps (spP X.K ct n f)) (hr : Room k X.A) (tk : Takes X W) (hg : Gl X x) (hm : X.mg x = some (.ref fa)) (hk : PySem.W.keepIn X.K (.ref fa) = true) (hb : Binds X.K fd ps []) (hn : ∀ env cs ds cs', mas env cs = .ok ds cs' → ds.length = n)
    (ha : PA X (e :: es) (tA X.K ct W mas)) (hdb : (x == ("__debug__" : Str)) = false := by decide) (he : starEach (e :: es) X.env = (false, eval e X.env) :: starEach es X.env := by rfl) (hpl : (backTo pos (starEach es X.env)).any (·.1) = false := by rfl) :
    PE X (.Call (.Name x p) (e :: es) [] pos) (tD X.K ct W (xCallP f mas)) := PE.imp (pe_callS Fn hr hg hm hk hb (fun σ => passAt tk σ) ha hdb he hpl) (by
  rintro σ H Q ⟨F, as, env, cs, ok, sl, h⟩
  refine ⟨F, as, env, cs, ok, sl, ?_⟩
  have h2 := out_bnd h
  cases q : mas env cs with
  | no =>
    rw [q] at h2
    exact h2
  | ex y cs2 =>
    rw [q] at h2
    exact h2
  | ok ds cs2 =>
    rw [q] at h2
    intro F1 H1 as1 g1 ok1 vs hvs
    have h3 : out X.K ct W σ.length F1 H1 as1 ((if noRL ds = true then up (f ds) else M.no) cs2) (oD X.K Q) := h2 F1 H1 as1 g1 ok1
    split at h3
    · rename_i nr
      exact callP_core (hn env cs ds cs2 q) ok1 hvs nr h3
    · exact False.elim h3)
theorem ge_callO {f : List D → Rp} (Fn : FnP X.prog X.w X.K X.mg X.base k fa fd ps (spO X.K ct n f)) (hr : Room k X.A) (tk : Takes X W) (hg : Gl X x) (hm : X.mg x = some (.ref fa)) (hk : PySem.W.keepIn X.K (.ref fa) = true) (hb : Binds X.K fd ps []) (hn : ∀ env cs ds cs', mas env cs = .ok ds cs' → ds.length = n)
    (ha : PA X (e :: es) (tA X.K ct W mas)) (hdb : (x == ("__debug__" : Str)) = false := by decide) (he : starEach (e :: es) X.env = (false, eval e X.env) :: starEach es X.env := by rfl) (hpl : (backTo pos (starEach es X.env)).any (·.1) = false := by rfl) :
    PE X (.Call (.Name x p) (e :: es) [] pos) (tD X.K ct W (xCallO f mas)) := PE.imp (pe_callS Fn hr hg hm hk hb (fun σ => passAt tk σ) ha hdb he hpl) (by
  rintro σ H Q ⟨F, as, env, cs, ok, sl, h⟩
  refine ⟨F, as, env, cs, ok, sl, ?_⟩
  have h2 := out_bnd h
  cases q : mas env cs with
  | no =>
    rw [q] at h2
    exact h2
  | ex y cs2 =>
    rw [q] at h2
    exact h2
  | ok ds cs2 =>
    rw [q] at h2
    intro F1 H1 as1 g1 ok1 vs hvs
    have h3 : out X.K ct W σ.length F1 H1 as1 ((if noRL ds = true then (match f ds with
      | .ok (.lst xs) => mkL true xs
      | r => up r) else M.no) cs2) (oD X.K Q) := h2 F1 H1 as1 g1 ok1
    split at h3
    · rename_i nr
      cases q2 : f ds with
      | ok d =>
        cases d with
        | lst xs =>
          rw [q2] at h3
          refine ⟨F1, ds, ok_nil ok1, hvs.noR nr, hn env cs ds cs2 q, ?_⟩
          rw [q2]
          intro F2 H2 as2 g ok2 p ys hp fp hH hy
          have ea : as2 = [] := List.eq_nil_of_length_eq_zero ok2.len
          subst ea
          obtain ⟨g3, ok3⟩ := gro_nil ok1 g ok2
          have np : p ∉ as1 := ok1.out hp
          have g4 : Gro F1 H1 as1 F2 H2 (as1 ++ [p]) := ⟨g3.ff, g3.fn, g3.hh, g3.hl, List.prefix_append _ _, fun a m => (List.mem_append.mp m).elim .inl fun z => .inr (by rw [List.mem_singleton.mp z]; exact hp)⟩
          have ok4 : Ok X.K F2 H2 (as1 ++ [p]) (cs2 ++ [xs]) := by
            refine ⟨ok3.fh, List.nodup_append.mpr ⟨ok3.nd, List.nodup_cons.mpr ⟨List.not_mem_nil, List.nodup_nil⟩, fun a ha b hb e => np (by rw [← List.mem_singleton.mp hb, ← e]; exact ha)⟩, by rw [List.length_append, List.length_append, ok3.len]; rfl, fun i a zs ha hz => ?_⟩
            by_cases hi : i < as1.length
            · rw [List.getElem?_append_left hi] at ha
              rw [List.getElem?_append_left (by rw [← ok3.len]; exact hi)] at hz
              obtain ⟨w1, ws, w2, w3⟩ := ok3.cell i a zs ha hz
              exact ⟨w1, ws, w2, w3.mono (Ext.refl _) (List.prefix_append _ _)⟩
            · rw [List.getElem?_append_right (Nat.le_of_not_lt hi)] at ha
              rw [List.getElem?_append_right (by rw [← ok3.len]; exact Nat.le_of_not_lt hi), ← ok3.len] at hz
              have e0 : i - as1.length = 0 := by
                cases q : i - as1.length with
                | zero => rfl
                | succ n =>
                  rw [q] at ha
                  simp at ha
              rw [e0] at ha hz
              have ea : p = a := by simpa using ha
              have ez : xs = zs := by simpa using hz
              subst ea ez
              exact ⟨fp, ys, hH, hy.mono (Ext.refl _) List.nil_prefix⟩
          refine h3 F2 H2 (as1 ++ [p]) g4 ok4 _ (.ref ?_)
          rw [List.getElem?_append_right (by rw [ok1.len]; exact Nat.le_refl _), ok1.len, Nat.sub_self]
          rfl
        | _ =>
          rw [q2] at h3
          exact spP_of_O (callP_core (hn env cs ds cs2 q) ok1 hvs nr (by rw [q2]; exact h3))
      | ex y =>
        rw [q2] at h3
        exact spP_of_O (callP_core (hn env cs ds cs2 q) ok1 hvs nr (by rw [q2]; exact h3))
      | no =>
        rw [q2] at h3
        exact False.elim h3
    · exact False.elim h3)
theorem gc_P {f : List D → Rp} {j : Nat} (Fn : Dp' X.prog X.w X.K X.mg X.base j x ps (spP X.K ct n f)) (hr : Room k X.A) (hj : j ≤ k) (tk : Takes X W) (hg : Gl X x) (hn : ∀ env cs ds cs', mas env cs = .ok ds cs' → ds.length = n)
    (ha : PA X (e :: es) (tA X.K ct W mas)) (hdb : (x == ("__debug__" : Str)) = false := by decide) (he : starEach (e :: es) X.env = (false, eval e X.env) :: starEach es X.env := by rfl) (hpl : (backTo pos (starEach es X.env)).any (·.1) = false := by rfl) :
    PE X (.Call (.Name x p) (e :: es) [] pos) (tD X.K ct W (xCallP f mas)) := by
  obtain ⟨fa, fd, hm, hk, hb, Fn⟩ := Fn
  exact ge_callP Fn (hr.mono hj) tk hg hm hk hb hn ha hdb he hpl
theorem gc_O {f : List D → Rp} {j : Nat} (Fn : Dp' X.prog X.w X.K X.mg X.base j x ps (spO X.K ct n f)) (hr : Room k X.A) (hj : j ≤ k) (tk : Takes X W) (hg : Gl X x) (hn : ∀ env cs ds cs', mas env cs = .ok ds cs' → ds.length = n)
    (ha : PA X (e :: es) (tA X.K ct W mas)) (hdb : (x == ("__debug__" : Str)) = false := by decide) (he : starEach (e :: es) X.env = (false, eval e X.env) :: starEach es X.env := by rfl) (hpl : (backTo pos (starEach es X.env)).any (·.1) = false := by rfl) :
    PE X (.Call (.Name x p) (e :: es) [] pos) (tD X.K ct W (xCallO f mas)) := by
  obtain ⟨fa, fd, hm, hk, hb, Fn⟩ := Fn
  exact ge_callO Fn (hr.mono hj) tk hg hm hk hb hn ha hdb he hpl
theorem gc_M {f : List D → M D} {j : Nat} (Fn : Dp' X.prog X.w X.K X.mg X.base j x ps (spM X.K ct n f)) (hr : Room k X.A) (hj : j ≤ k) (tk : Takes X W) (hg : Gl X x) (hn : ∀ env cs ds cs', mas env cs = .ok ds cs' → ds.length = n)
    (ha : PA X (e :: es) (tA X.K ct W mas)) (hdb : (x == ("__debug__" : Str)) = false := by decide) (he : starEach (e :: es) X.env = (false, eval e X.env) :: starEach es X.env := by rfl) (hpl : (backTo pos (starEach es X.env)).any (·.1) = false := by rfl) :
    PE X (.Call (.Name x p) (e :: es) [] pos) (tD X.K ct W (xCallM f mas)) := by
  obtain ⟨fa, fd, hm, hk, hb, Fn⟩ := Fn
  exact ge_callM Fn (hr.mono hj) tk hg hm hk hb hn ha hdb he hpl
/-- a module's constants -/
theorem ge_gint {i : Int} {x : Str} (hm : ∃ t, X.mg x = some (.int i t)) (hg : Gl X x) (hd : (x == ("__debug__" : Str)) = false := by decide) : PE X (.Name x p) (tD X.K ct W (xC (.int i))) := by
  obtain ⟨t, hm⟩ := hm
  exact ge_c (pe_glob (v := .int i) hg hm ⟨t, rfl⟩ hd) fun _ _ => .int i
theorem ge_gstr {i : Str} {x : Str} (hm : ∃ t, X.mg x = some (.str i t)) (hg : Gl X x) (hd : (x == ("__debug__" : Str)) = false := by decide) : PE X (.Name x p) (tD X.K ct W (xC (.str i))) := by
  obtain ⟨t, hm⟩ := hm
  exact ge_c (pe_glob (v := .str i) hg hm ⟨t, rfl⟩ hd) fun _ _ => .str i
/-- how many arguments -/
theorem an_nil : ∀ env cs ds cs', aNil env cs = .ok ds cs' → ds.length = 0 := fun _ _ _ _ h => by
  cases h
  rfl
theorem an_cons {m : En → M D} {ms : En → M (List D)} {n : Nat} (h : ∀ env cs ds cs', ms env cs = .ok ds cs' → ds.length = n) : ∀ env cs ds cs', aCons m ms env cs = .ok ds cs' → ds.length = n + 1 := fun env cs ds cs' e => by
  unfold aCons M.bnd at e
  cases q : m env cs with
  | ok d cs1 =>
    rw [q] at e
    dsimp only at e
    cases q2 : ms env cs1 with
    | ok es cs2 =>
      rw [q2] at e
      cases e
      exact congrArg (· + 1) (h env cs1 es _ q2)
    | ex y cs2 =>
      rw [q2] at e
      cases e
    | no =>
      rw [q2] at e
      cases e
  | ex y cs2 =>
    rw [q] at e
    cases e
  | no =>
    rw [q] at e
    cases e
end
/-! ### refusals -/
def sRaise (x : Exn) : En → M Fl := fun _ => M.thr x
inductive X4 where
  | lines | thing | kind | nonet
def X4.e : X4 → Exn
  | .lines => .lines
  | .thing => .thing
  | .kind => .kind
  | .nonet => .nonet
def Ct.at4 (ct : Ct) : X4 → Addr
  | .lines => ct.lines
  | .thing => ct.thing
  | .kind => ct.kind
  | .nonet => ct.nonet
theorem xrel4 {ct : Ct} {H : Hp} (y : X4) : XRel ct H y.e (.ref (ct.at4 y)) none := by cases y <;> exact ⟨rfl, rfl⟩
theorem gs_raise4 {X : Cx} {ct : Ct} {W : WX} (y : X4) {x m : Str} {j : Nat} {p p2 p3 pos : Pos} (hc : X.calm = true) (tk : Takes X W) (q : PySem.W.excIn X.K (ct.at4 y) He.veBase "ValueError.__new__" = true) (gC : X.mg x = some (.ref (ct.at4 y))) (kC : PySem.W.keepIn X.K (.ref (ct.at4 y)) = true) (r : Raises X (.ref (ct.at4 y))) (hg : Gl X x)
    (hdb : (x == ("__debug__" : Str)) = false := by decide) : PS X (.Raise (some (.Call (.Name x p) [.Constant (.str m) j p2] [] p3)) none pos) (tS X.K ct W (sRaise y.e)) := PS.imp (ps_raise hc tk (pmk_own PySem.F.excBase_ValueError q gC kC r hg hdb)) (by
  rintro D σ H ⟨F, as, env, cs, ok, sl, h⟩
  exact h (.ref (ct.at4 y)) none σ F H as rfl (Gro.refl _ _ _) ok (xrel4 y))
end G
/-! G6: defs that give a list of own new lists. -/
namespace G
open L2 PySem PySem.Spec PyProof.Rows
inductive Rp2 where
  | ok (L : List (List D)) | ex (x : Exn) | no
def up2 : Rp2 → M (List (List D))
  | .ok L => fun _ => .ok L L
  | .ex x => M.thr x
  | .no => M.no
def asP (f : List D → Rp2) (ds : List D) : Rp := match f ds with
  | .ok L => if L.all noRL = true then .ok (.lst (L.map .lst)) else .no
  | .ex x => .ex x
  | .no => .no
/-- the cells that a list names -/
def refsOf : List D → Option (List Nat)
  | [] => some []
  | .ref i :: r => (refsOf r).map (i :: ·)
  | _ :: _ => none
def getAll (cs : Cs) : List Nat → Option (List (List D))
  | [] => some []
  | i :: r => match cs[i]?, getAll cs r with
    | some xs, some ys => if noRL xs = true then some (xs :: ys) else none
    | _, _ => none
def nodupB : List Nat → Bool
  | [] => true
  | i :: r => !r.contains i && nodupB r
def own2 (cs : Cs) (skip : List Nat) (xs : List D) : Rp2 := match refsOf xs with
  | some is => if (nodupB (skip ++ is)) = true then (match getAll cs is with
    | some L => .ok L
    | none => .no) else .no
  | none => .no
def runO2 (c : En → M Fl) (k : Nat) (ds : List D) : Rp2 := match c (startE k ds) [] with
  | .ok (.rt (.lst xs)) cs => own2 cs [] xs
  | .ok (.rt (.ref i)) cs => (match cs[i]? with
    | some xs => own2 cs [i] xs
    | none => .no)
  | .ex x _ => .ex x
  | _ => .no
def oO2 (Q : VK) : List (List D) → Cs → Hp → Hp → List Addr → Prop := fun _ _ F' H' as' => ∀ a, F' a = some (.lst (as'.map V.ref)) → Q (.ref a) H'
def spO2 (K : PySem.W.Frag) (ct : Ct) (n : Nat) (f : List D → Rp2) : Sp := fun vs H Q E => ∃ F ds, Ok K F H [] [] ∧ DvL K F [] vs ds ∧ ds.length = n ∧ out K ct (fun c d _ H => E c d H) 0 F H [] (up2 (f ds) []) (oO2 Q)
section
variable {P : Program} {w : World} {K : PySem.W.Frag} {mg : Str → Option Value} {base : Heap} {ct : Ct} {F H : Hp} {as : List Addr} {cs : Cs}
theorem nodupB_ok : ∀ {is : List Nat}, nodupB is = true → is.Nodup
  | [], _ => List.nodup_nil
  | i :: r, h => by
    obtain ⟨h1, h2⟩ := Bool.and_eq_true_iff.mp (show (!r.contains i && nodupB r) = true from h)
    exact List.nodup_cons.mpr ⟨fun m => by simp [m] at h1, nodupB_ok h2⟩
theorem refsOf_map : ∀ {xs : List D} {is : List Nat}, refsOf xs = some is → xs = is.map D.ref
  | [], is, e => by
    cases e
    rfl
  | .ref i :: r, is, e => by
    have e2 : (refsOf r).map (i :: ·) = some is := e
    cases q : refsOf r with
    | none =>
      rw [q] at e2
      cases e2
    | some s =>
      rw [q] at e2
      cases e2
      rw [refsOf_map q]
      rfl
  | .non :: _, _, e | .bl _ :: _, _, e | .int _ :: _, _, e | .str _ :: _, _, e | .lst _ :: _, _, e | .tup _ :: _, _, e | .dic :: _, _, e | .scr _ :: _, _, e => by cases e
/-- the places of cells -/
theorem places (ok : Ok K F H as cs) : ∀ {is : List Nat} {L : List (List D)} {vs : List V}, DvL K F as vs (is.map D.ref) → getAll cs is = some L →
    ∃ ps : List Addr, vs = ps.map V.ref ∧ ps.length = is.length ∧ L.length = is.length ∧ (∀ (j : Nat) (p : Addr), ps[j]? = some p → ∃ i : Nat, is[j]? = some i ∧ as[i]? = some p) ∧
      ∀ (j : Nat) (p : Addr) (xs : List D), ps[j]? = some p → L[j]? = some xs → ∃ i : Nat, is[j]? = some i ∧ as[i]? = some p ∧ cs[i]? = some xs ∧ noRL xs = true
  | [], L, _, h, e => by
    cases e
    cases h
    exact ⟨[], rfl, rfl, rfl, fun _ _ z => by simp at z, fun _ _ _ z => by simp at z⟩
  | i :: r, L, _, h, e => by
    have e2 : (match cs[i]?, getAll cs r with
      | some xs, some ys => if noRL xs = true then some (xs :: ys) else none
      | _, _ => none) = some L := e
    split at e2
    · rename_i xs ys e3 e4
      split at e2
      · rename_i nr
        cases e2
        cases h with
        | cons h1 h2 =>
          cases h1 with
          | ref ha =>
            obtain ⟨ps, rfl, l1, l2, h3, h4⟩ := places ok h2 e4
            refine ⟨_ :: ps, rfl, congrArg (· + 1) l1, congrArg (· + 1) l2, fun j p hp => ?_, fun j p zs hp hz => ?_⟩
            · cases j with
              | zero =>
                simp at hp
                subst hp
                exact ⟨i, rfl, ha⟩
              | succ j => exact h3 j p (by simpa using hp)
            · cases j with
              | zero =>
                simp at hp hz
                subst hp hz
                exact ⟨i, rfl, ha, e3, nr⟩
              | succ j => exact h4 j p zs (by simpa using hp) (by simpa using hz)
      · cases e2
    · cases e2
theorem keep_ok {F0 H0 : Hp} {is : List Nat} {L : List (List D)} {vs : List V} (ok : Ok K F H as cs) (g : Gro F0 H0 [] F H as) (hv : DvL K F as vs (is.map D.ref)) (hn : is.Nodup) (e : getAll cs is = some L) :
    ∃ ps : List Addr, vs = ps.map V.ref ∧ Gro F0 H0 [] F H ps ∧ Ok K F H ps L ∧ ∀ p ∈ ps, ∃ i ∈ is, as[i]? = some p := by
  obtain ⟨ps, e1, l1, l2, h3, h4⟩ := places ok hv e
  have mem : ∀ p ∈ ps, ∃ i ∈ is, as[i]? = some p := fun p hp => by
    obtain ⟨j, hj⟩ := List.mem_iff_getElem?.mp hp
    obtain ⟨i, hi, ha⟩ := h3 j p hj
    exact ⟨i, List.mem_of_getElem? hi, ha⟩
  refine ⟨ps, e1, ⟨g.ff, g.fn, g.hh, g.hl, List.nil_prefix, fun p hp => ?_⟩, ⟨ok.fh, ?_, by rw [l1, l2], fun j p xs hp hx => ?_⟩, mem⟩
  · obtain ⟨i, _, ha⟩ := mem p hp
    exact g.an p (List.mem_of_getElem? ha)
  · refine List.pairwise_iff_getElem.mpr fun a b ha hb hab => fun q => ?_
    obtain ⟨i, hi, ha1⟩ := h3 a _ (List.getElem?_eq_getElem ha)
    obtain ⟨j, hj, ha2⟩ := h3 b _ (List.getElem?_eq_getElem hb)
    have eij : i = j := by
      obtain ⟨z1, y1⟩ := List.getElem?_eq_some_iff.mp ha1
      obtain ⟨z2, y2⟩ := List.getElem?_eq_some_iff.mp ha2
      exact (List.getElem_inj ok.nd).mp (y1.trans (q.trans y2.symm))
    subst eij
    obtain ⟨z1, y1⟩ := List.getElem?_eq_some_iff.mp hi
    obtain ⟨z2, y2⟩ := List.getElem?_eq_some_iff.mp hj
    exact Nat.ne_of_lt hab ((List.getElem_inj hn).mp (y1.trans y2.symm))
  · obtain ⟨i, _, ha, hc, nr⟩ := h4 j p xs hp hx
    obtain ⟨w1, ys, w2, w3⟩ := ok.cell i p xs ha hc
    exact ⟨w1, ys, w2, (w3.noR nr).mono (Ext.refl _) List.nil_prefix⟩
theorem def_O2 {x : Str} {st : Stmt} {f : Addr} {fd : FuncData} {N ps : List Str} {k n : Nat} {c : En → M Fl} (F : FunG K x st f fd) (S : FnScope N ps (defScope st)) (hn : ps.length = n)
    (body : ∀ (cdv : Value) (A : Around) (outer : List Env) (s : Shared) (H : Hp) (E : XK), Room k (A.deeper (envOfC x (defScope st) s.heap.objs.size f cdv)) → PSs (cxG P w K mg base N x st f cdv A outer s H E) (defBody st) (tS K ct (fun c d _ H => E c d H) c)) :
    FnP P w K mg base (k + 1) f fd ps (spO2 K ct n (runO2 c N.length)) := by
  refine F.ok S (fun vs H Q E h => ?_) (fun cdv A outer s H vs Q E hr h => ⟨_, body cdv A outer s H E hr, ?_⟩)
  · obtain ⟨_, _, _, hv, hl, _⟩ := h
    rw [hv.length, hl, hn]
  · obtain ⟨F', ds, ok, hv, hl, h⟩ := h
    refine ⟨F', [], startE N.length ds, [], ok, start_of hv, ?_⟩
    unfold runO2 at h
    cases q : c (startE N.length ds) [] with
    | no =>
      rw [q] at h
      exact h
    | ex e cs =>
      rw [q] at h
      intro c' d σ' F1 H1 as1 _ g ok1 hx
      exact h c' d [] (frz F1 H1 as1) H1 [] rfl (gro_frz ok1 g) (ok_frz ok1) hx
    | ok fl cs =>
      rw [q] at h
      cases fl with
      | nx e => exact False.elim h
      | bk e => exact False.elim h
      | ct e => exact False.elim h
      | rt d =>
        intro F1 H1 as1 g ok1 v dv
        cases d with
        | lst xs =>
          have h2 : out K ct (fun c d _ H => E c d H) 0 F' H [] (up2 (own2 cs [] xs) []) (oO2 Q) := h
          unfold own2 at h2
          split at h2
          · rename_i is e1
            split at h2
            · rename_i nd
              split at h2
              · rename_i L e2
                cases dv with
                | lst hf hl =>
                  rw [refsOf_map e1] at hl
                  obtain ⟨ps2, rfl, g2, ok2, _⟩ := keep_ok ok1 g hl (nodupB_ok nd) e2
                  exact h2 F1 H1 ps2 g2 ok2 _ hf
              · exact False.elim h2
            · exact False.elim h2
          · exact False.elim h2
        | ref i =>
          have h2 : out K ct (fun c d _ H => E c d H) 0 F' H [] (up2 (match cs[i]? with
            | some xs => own2 cs [i] xs
            | none => .no) []) (oO2 Q) := h
          cases hc : cs[i]? with
          | none =>
            rw [hc] at h2
            exact False.elim h2
          | some xs =>
            rw [hc] at h2
            have h2 : out K ct (fun c d _ H => E c d H) 0 F' H [] (up2 (own2 cs [i] xs) []) (oO2 Q) := h2
            unfold own2 at h2
            split at h2
            · rename_i is e1
              split at h2
              · rename_i nd
                split at h2
                · rename_i L e2
                  cases dv with
                  | ref ha =>
                    rename_i a
                    obtain ⟨fn, ys, hH, hl⟩ := ok1.cell i _ xs ha hc
                    rw [refsOf_map e1] at hl
                    obtain ⟨hni, hnd⟩ := List.nodup_cons.mp (nodupB_ok nd)
                    obtain ⟨ps2, rfl, g2, ok2, hm⟩ := keep_ok ok1 g hl hnd e2
                    have nm : a ∉ ps2 := fun m => by
                      obtain ⟨j, hj, hb⟩ := hm a m
                      obtain ⟨z1, y1⟩ := List.getElem?_eq_some_iff.mp ha
                      obtain ⟨z2, y2⟩ := List.getElem?_eq_some_iff.mp hb
                      exact hni (by rw [(List.getElem_inj ok1.nd).mp (y1.trans y2.symm)]; exact hj)
                    have g3 : Gro F' H [] (upd F1 a (.lst (ps2.map V.ref))) H1 ps2 := ⟨g2.ff.trans (Ext.new fn), fun p hp => by
                      rw [upd_ne fun e => (g.an a (List.mem_of_getElem? ha)).elim (fun z => nomatch z) fun z => hp (by rw [e]; exact z)]
                      exact g2.fn p hp, g2.hh, g2.hl, g2.ap, g2.an⟩
                    have ok3 : Ok K (upd F1 a (.lst (ps2.map V.ref))) H1 ps2 L := ⟨fun b o e => by
                      by_cases q : b = a
                      · rw [q, upd_same] at e
                        cases e
                        rw [q]
                        exact hH
                      · rw [upd_ne q] at e
                        exact ok2.fh b o e, ok2.nd, ok2.len, fun j p zs hp hz => by
                        obtain ⟨w1, ws, w2, w3⟩ := ok2.cell j p zs hp hz
                        exact ⟨by rw [upd_ne fun e => nm (by rw [← e]; exact List.mem_of_getElem? hp)]; exact w1, ws, w2, w3.mono (Ext.new fn) List.prefix_rfl⟩⟩
                    exact h2 _ H1 ps2 g3 ok3 a upd_same
                · exact False.elim h2
              · exact False.elim h2
            · exact False.elim h2
        | _ => exact False.elim h
theorem up_lsts {as : List Addr} {L : List (List D)} (ok : Ok K F H as L) (hn : ∀ xs ∈ L, noRL xs = true) : DvL K (frz F H as) [] (as.map V.ref) (L.map D.lst) := by
  have gen : ∀ (ps : List Addr) (M : List (List D)), ps.length = M.length → (∀ (j : Nat) (p : Addr) (xs : List D), ps[j]? = some p → M[j]? = some xs → p ∈ as ∧ noRL xs = true ∧ ∃ ys, H p = some (.lst ys) ∧ DvL K F as ys xs) → DvL K (frz F H as) [] (ps.map V.ref) (M.map D.lst) := fun ps => by
    induction ps with
    | nil =>
      intro M e _
      cases M with
      | nil => exact .nil
      | cons _ _ => cases e
    | cons p r ih =>
      intro M e h
      cases M with
      | nil => cases e
      | cons xs M =>
        obtain ⟨h1, h2, ys, h3, h4⟩ := h 0 p xs rfl rfl
        refine .cons (.lst (by rw [frz_in h1]; exact h3) ((h4.noR h2).mono (ext_frz ok) List.prefix_rfl)) (ih M (by simpa using e) fun j q zs hq hz => h (j + 1) q zs (by simpa using hq) (by simpa using hz))
  refine gen as L ok.len fun j p xs hp hx => ?_
  obtain ⟨_, ys, w2, w3⟩ := ok.cell j p xs hp hx
  exact ⟨List.mem_of_getElem? hp, hn xs (List.mem_of_getElem? hx), ys, w2, w3⟩
theorem spP_of_O2 {n : Nat} {f : List D → Rp2} {vs : List V} {H : Hp} {Q : VK} {E : XK} (h : spP K ct n (asP f) vs H Q E) : spO2 K ct n f vs H Q E := by
  obtain ⟨F, ds, ok, hv, hl, h⟩ := h
  refine ⟨F, ds, ok, hv, hl, ?_⟩
  unfold asP at h
  cases q : f ds with
  | no =>
    rw [q] at h
    exact h
  | ex x =>
    rw [q] at h
    exact fun c d σ' F1 H1 as1 l g ok1 hx => by
      exact h c d σ' (frz F1 H1 as1) H1 [] l (gro_frz ok1 g) (ok_frz ok1) hx
  | ok L =>
    rw [q] at h
    intro F1 H1 as1 g ok1 a ha
    have h2 : out K ct (fun c d _ H => E c d H) 0 F H [] (up (if L.all noRL = true then Rp.ok (.lst (L.map .lst)) else .no) []) (oD K Q) := h
    by_cases nr : L.all noRL = true
    · rw [if_pos nr] at h2
      exact h2 (frz F1 H1 as1) H1 [] (gro_frz ok1 g) (ok_frz ok1) _ (.lst (ext_frz ok1 _ _ ha) (up_lsts ok1 (List.all_eq_true.mp nr)))
    · rw [if_neg nr] at h2
      exact False.elim h2
theorem Dp'.ofO2 {k n : Nat} {x : Str} {ps : List Str} {f : List D → Rp2} (h : Dp' P w K mg base k x ps (spO2 K ct n f)) : Dp' P w K mg base k x ps (spP K ct n (asP f)) := by
  obtain ⟨fa, fd, a, b, c, d⟩ := h
  exact ⟨fa, fd, a, b, c, d.imp fun _ _ _ _ => spP_of_O2⟩
end
/-- the new cells' names -/
def refsN (n m : Nat) : List D := (List.range m).map fun j => .ref (n + j)
def xCallO2 (f : List D → Rp2) (a : En → M (List D)) : En → M D := fun env => M.bnd (a env) fun ds cs => if noRL ds = true then (match f ds with
  | .ok L => if L.all noRL = true then .ok (.lst (refsN cs.length L.length)) (cs ++ L) else .no
  | .ex x => .ex x cs
  | .no => .no) else .no
section
variable {X : Cx} {ct : Ct} {W : WX} {k n : Nat} {fa : Addr} {fd : FuncData} {ps : List Str} {x : Str} {p pos : Pos} {e : Expr} {es : List Expr} {mas : En → M (List D)}
theorem refsN_dv {K : PySem.W.Frag} {F : Hp} {as : List Addr} {n : Nat} : ∀ (qs : List Addr), (∀ (j : Nat) (p : Addr), qs[j]? = some p → as[n + j]? = some p) → DvL K F as (qs.map V.ref) (refsN n qs.length) := fun qs h => by
  have gen : ∀ (rs : List Addr) (m : Nat), (∀ (j : Nat) (p : Addr), rs[j]? = some p → as[n + (m + j)]? = some p) → DvL K F as (rs.map V.ref) ((List.range' m rs.length).map fun j => D.ref (n + j)) := fun rs => by
    induction rs with
    | nil => exact fun m _ => .nil
    | cons r rs ih => exact fun m h => .cons (.ref (h 0 r rfl)) (ih (m + 1) fun j p hp => by
        have := h (j + 1) p (by simpa using hp)
        rw [← this]
        congr 1
        omega)
  unfold refsN
  rw [List.range_eq_range']
  exact gen qs 0 fun j p hp => by rw [Nat.zero_add]; exact h j p hp
theorem ok_join {K : PySem.W.Frag} {F H F' H' : Hp} {as ps : List Addr} {cs L : Cs} (ok : Ok K F H as cs) (g : Gro F H [] F' H' ps) (ok' : Ok K F' H' ps L) (hn : ∀ xs ∈ L, noRL xs = true) : Gro F H as F' H' (as ++ ps) ∧ Ok K F' H' (as ++ ps) (cs ++ L) := by
  have new : ∀ p ∈ ps, H p = none := fun p hp => (g.an p hp).elim (fun z => nomatch z) id
  refine ⟨⟨g.ff, g.fn, fun p o h _ => g.hh p o h (by simp), g.hl, List.prefix_append _ _, fun p m => (List.mem_append.mp m).elim .inl fun z => .inr (new p z)⟩, ⟨ok'.fh, ?_, by rw [List.length_append, List.length_append, ok.len, ok'.len], fun i a xs ha hx => ?_⟩⟩
  · exact List.nodup_append.mpr ⟨ok.nd, ok'.nd, fun a ha b hb e => ok.out (new b hb) (by rw [← e]; exact ha)⟩
  · by_cases hi : i < as.length
    · rw [List.getElem?_append_left hi] at ha
      rw [List.getElem?_append_left (by rw [← ok.len]; exact hi)] at hx
      obtain ⟨h1, ys, h2, h3⟩ := ok.cell i a xs ha hx
      exact ⟨by rw [g.fn a (by rw [h2]; exact fun z => nomatch z)]; exact h1, ys, g.hh a _ h2 (by simp), h3.mono g.ff (List.prefix_append _ _)⟩
    · rw [List.getElem?_append_right (Nat.le_of_not_lt hi)] at ha
      rw [List.getElem?_append_right (by rw [← ok.len]; exact Nat.le_of_not_lt hi), ← ok.len] at hx
      obtain ⟨h1, ys, h2, h3⟩ := ok'.cell _ a xs ha hx
      exact ⟨h1, ys, h2, (h3.noR (hn xs (List.mem_of_getElem? hx))).mono (Ext.refl _) List.nil_prefix⟩
theorem gc_O2 {f : List D → Rp2} {j : Nat} (Fn : Dp' X.prog X.w X.K X.mg X.base j x ps (spO2 X.K ct n f)) (hr : Room k X.A) (hj : j ≤ k) (tk : Takes X W) (hg : Gl X x) (hn : ∀ env cs ds cs', mas env cs = .ok ds cs' → ds.length = n)
    (ha : PA X (e :: es) (tA X.K ct W mas)) (hdb : (x == ("__debug__" : Str)) = false := by decide) (he : starEach (e :: es) X.env = (false, eval e X.env) :: starEach es X.env := by rfl) (hpl : (backTo pos (starEach es X.env)).any (·.1) = false := by rfl) :
    PE X (.Call (.Name x p) (e :: es) [] pos) (tD X.K ct W (xCallO2 f mas)) := by
  obtain ⟨fa, fd, hm, hk, hb, Fn⟩ := Fn
  refine PE.imp (pe_callS Fn (hr.mono hj) hg hm hk hb (fun σ => passAt tk σ) ha hdb he hpl) ?_
  rintro σ H Q ⟨F, as, env, cs, ok, sl, h⟩
  refine ⟨F, as, env, cs, ok, sl, ?_⟩
  have h2 := out_bnd h
  cases q : mas env cs with
  | no =>
    rw [q] at h2
    exact h2
  | ex y cs2 =>
    rw [q] at h2
    exact h2
  | ok ds cs2 =>
    rw [q] at h2
    intro F1 H1 as1 g1 ok1 vs hvs
    have h3 : out X.K ct W σ.length F1 H1 as1 (if noRL ds = true then (match f ds with
      | .ok L => if L.all noRL = true then .ok (.lst (refsN cs2.length L.length)) (cs2 ++ L) else .no
      | .ex x => .ex x cs2
      | .no => .no) else .no) (oD X.K Q) := h2 F1 H1 as1 g1 ok1
    split at h3
    · rename_i nr
      refine ⟨F1, ds, ok_nil ok1, hvs.noR nr, hn env cs ds cs2 q, ?_⟩
      cases q2 : f ds with
      | no =>
        rw [q2] at h3
        exact False.elim h3
      | ex y =>
        rw [q2] at h3
        intro c d σ' F2 H2 as2 _ g ok2 hx
        have ea : as2 = [] := List.eq_nil_of_length_eq_zero ok2.len
        subst ea
        obtain ⟨g3, ok3⟩ := gro_nil ok1 g ok2
        exact h3 c d σ F2 H2 as1 rfl g3 ok3 hx
      | ok L =>
        rw [q2] at h3
        dsimp only at h3
        split at h3
        · rename_i nl
          intro F2 H2 as2 g ok2 a ha
          obtain ⟨g3, ok3⟩ := ok_join ok1 g ok2 (List.all_eq_true.mp nl)
          refine h3 F2 H2 (as1 ++ as2) g3 ok3 _ (.lst ha ?_)
          have := refsN_dv (K := X.K) (F := F2) (as := as1 ++ as2) (n := cs2.length) as2 fun j p hp => by
            rw [List.getElem?_append_right (by rw [ok1.len]; omega), ok1.len, Nat.add_sub_cancel_left]
            exact hp
          rw [ok2.len] at this
          exact this
        · exact False.elim h3
    · exact False.elim h3
end
end G
namespace G
open L2 PySem PySem.Spec PyProof.Rows
theorem fn_no2 {P : Program} {w : World} {K : PySem.W.Frag} {mg : Str → Option Value} {base : Heap} {ct : Ct} {f : Addr} {fd : FuncData} {ps : List Str} {k n : Nat} (hn : ps.length = n) : FnP P w K mg base k f fd ps (spO2 K ct n fun _ => .no) := ⟨fun vs H Q E h => by
  obtain ⟨_, _, _, hv, hl, _⟩ := h
  rw [hv.length, hl, hn], fun _ _ _ _ _ _ _ _ _ _ _ _ _ h => by
  obtain ⟨_, _, _, _, _, h⟩ := h
  exact False.elim h⟩
end G
/-! G7: try, caught errors asked for their classes; the head's Hook with facts of classes. -/
namespace G
open L2 PySem PySem.Spec PyProof.Rows
/-! ### the classes -/
def X4.eqb : X4 → X4 → Bool
  | .lines, .lines | .thing, .thing | .kind, .kind | .nonet, .nonet => true
  | _, _ => false
structure Xt (K : PySem.W.Frag) (mg : Str → Option Value) (ct : Ct) (ne : Addr) : Prop where
  ex : ∀ y : X4, ExcC K (ct.at4 y)
  is4 : ∀ y z : X4, PySem.W.kitOne K (.ref (ct.at4 y)) (.ref (ct.at4 z)) = some (y.eqb z)
  isN : ∀ y : X4, PySem.W.kitOne K (.ref (ct.at4 y)) (.ref ct.net) = some false
  isV : ∀ y : X4, PySem.W.kitOne K (.ref (ct.at4 y)) (.type "ValueError") = some true
  em : ∀ y : X4, PySem.W.exmOne K (.ref (ct.at4 y)) (.ref ne) = some true
  mgE : mg "NetError" = some (.ref ne)
  mgN : mg "BadNet" = some (.ref ct.net)
  mgV : mg "ValueError" = none
def ctOf (K : PySem.W.Frag) : Ct := ⟨He.ga K "BadLines", He.ga K "BadThing", He.ga K "BadKind", He.ga K "NoNet", He.ga K "BadNet"⟩
def exCB (K : PySem.W.Frag) (D : Addr) : Bool := decide (PySem.W.findIn K (.ref D) "__getattribute__" = some (some (.builtin "BaseException.__getattribute__"))) && (decide (PySem.W.findIn K (.ref D) "__getattr__" = some none) &&
  (decide (PySem.W.subIn K (.ref D) (.type "BaseException") = some true) && (PySem.W.hasDictIn K D && (decide (PySem.W.findIn K (.ref D) "__class__" = some (some (.builtin "object.__class__"))) &&
  (decide (PySem.W.specialIn K (.builtin "object.__class__") "__get__" = some (some (.builtin "getset_descriptor.__get__"))) && (decide (PySem.W.takesIn K (.builtin "object.__class__") = some true) && decide (PySem.W.mroIn K D (.type "object") = some true)))))))
theorem exCB_ok {K : PySem.W.Frag} {D : Addr} (h : exCB K D = true) : ExcC K D := by
  obtain ⟨h1, h⟩ := He.ba h
  obtain ⟨h2, h⟩ := He.ba h
  obtain ⟨h3, h⟩ := He.ba h
  obtain ⟨h4, h⟩ := He.ba h
  obtain ⟨h5, h⟩ := He.ba h
  obtain ⟨h6, h⟩ := He.ba h
  obtain ⟨h7, h8⟩ := He.ba h
  exact ⟨of_decide_eq_true h1, of_decide_eq_true h2, of_decide_eq_true h3, h4, of_decide_eq_true h5, of_decide_eq_true h6, of_decide_eq_true h7, of_decide_eq_true h8⟩
def x4s : List X4 := [.lines, .thing, .kind, .nonet]
theorem x4s_all {p : X4 → Bool} (h : x4s.all p = true) (y : X4) : p y = true := by
  have := List.all_eq_true.mp h y
  cases y <;> exact this (by simp [x4s])
def xtY (K : PySem.W.Frag) (y : X4) : Bool :=
  let ct := ctOf K
  exCB K (ct.at4 y) && ((x4s.all fun z => decide (PySem.W.kitOne K (.ref (ct.at4 y)) (.ref (ct.at4 z)) = some (y.eqb z))) &&
    (decide (PySem.W.kitOne K (.ref (ct.at4 y)) (.ref ct.net) = some false) && (decide (PySem.W.kitOne K (.ref (ct.at4 y)) (.type "ValueError") = some true) && decide (PySem.W.exmOne K (.ref (ct.at4 y)) (.ref (He.ga K "NetError")) = some true))))
def xtB (K : PySem.W.Frag) : Bool := x4s.all (xtY K)
theorem xtB_ok {K : PySem.W.Frag} {h : Heap} {mg : Str → Option Value} (X : K.In h) (Gn : h.Ns mainGlobals mg) (c1 : (He.Fa.glo "NetError").ok K = true) (c2 : (He.Fa.glo "BadNet").ok K = true) (c3 : (He.Fa.free "ValueError").ok K = true) (h : xtB K = true) : Xt K mg (ctOf K) (He.ga K "NetError") := by
  have key : ∀ y, xtY K y = true := fun y => x4s_all h y
  refine ⟨fun y => ?_, fun y z => ?_, fun y => ?_, fun y => ?_, fun y => ?_, He.glo_ok X Gn c1, He.glo_ok X Gn c2, He.free_ok X Gn c3⟩
  · exact exCB_ok (He.ba (key y)).1
  · exact of_decide_eq_true (x4s_all (He.ba (He.ba (key y)).2).1 z)
  · exact of_decide_eq_true (He.ba (He.ba (He.ba (key y)).2).2).1
  · exact of_decide_eq_true (He.ba (He.ba (He.ba (He.ba (key y)).2).2).2).1
  · exact of_decide_eq_true (He.ba (He.ba (He.ba (He.ba (key y)).2).2).2).2
/-! ### the Hook with one more fact -/
abbrev AlX : Type := He.AlD × Bool
def obsX (fa : List He.Fa) (fn : List He.DefD) (ex : PySem.W.Frag → Bool) (K : PySem.W.Frag) : AlX := (He.obsD fa fn K, ex K)
def obsXG (n : Nat) (fa : List He.Fa) (fn : List He.DefD) (ex : PySem.W.Frag → Bool) (g : Addr → Option Obj) : AlX := obsX fa fn ex (He.frG g (He.asD g n))
def hookX (n : Nat) (fa : List He.Fa) (fn : List He.DefD) (ex : PySem.W.Frag → Bool) : PySem.W.Hook where
  α := AlX
  obs := fun s => obsXG n fa fn ex s.heap.get?
  val := fun _ => (He.valD fn, true)
  says := fun _ h => ∃ K : PySem.W.Frag, K.In h ∧ He.SaysD fa fn K ∧ ex K = true
  of := fun _ _ e => ⟨_, He.frG_in, congrArg (fun z : AlX => z.1) e, congrArg (fun z : AlX => z.2) e⟩
  keeps := fun _ _ _ ⟨K, hK, c⟩ k => ⟨K, PySem.W.Frag.In.keeps hK k, c⟩
theorem obsXG_eq {n : Nat} {fa : List He.Fa} {fn : List He.DefD} {ex : PySem.W.Frag → Bool} {g : Addr → Option Obj} {s : Shared} (h : ∀ a, g a = s.heap.get? a) : obsXG n fa fn ex g = (hookX n fa fn ex).obs s := by
  have e : g = s.heap.get? := funext h
  rw [e] <;> rfl
/-! ### asked in a suite -/
def tEb (i : Nat) (a : Addr) (b : Bool) : TE := fun σ H Q => σ[i]? = some (some (.ref a)) ∧ Q (.bl b) H
def tTb (i : Nat) (a : Addr) (b : Bool) : TT := fun σ H Q => σ[i]? = some (some (.ref a)) ∧ Q b H
def tSb (i : Nat) (a : Addr) (b : Bool) : TS := fun E σ H => σ[i]? = some (some (.ref a)) ∧ E.rt (.bl b) H
section
variable {X : Cx} {ct : Ct} {ne a D c : Addr} {oe : Obj} {pn : List (Addr × Obj)} {e : Expr} {x : Str} {p p2 pos : Pos} {i : Nat} {b b' : Bool}
theorem pe_isOwn (C : ExcC X.K D) (hz : Zc (.ref D) none oe) (hf : ∃ vs, oe.data = .fields vs) (hI : X.mg "isinstance" = none) (hm : X.mg x = some (.ref c)) (k : PySem.W.kitOne X.K (.ref D) (.ref c) = some b) (he : PE (X.suite a ((a, oe) :: pn)) e (tVar i))
    (hgI : Gl (X.suite a ((a, oe) :: pn)) "isinstance") (hg : Gl (X.suite a ((a, oe) :: pn)) x) (hd : (x == ("__debug__" : Str)) = false := by decide)
    (h1 : starEach [e, .Name x p2] X.env = (false, eval e X.env) :: starEach [.Name x p2] X.env := by rfl) (h2 : starEach [.Name x p2] X.env = (false, eval (.Name x p2) X.env) :: starEach [] X.env := by rfl) (hpl : (backTo pos (starEach [.Name x p2] X.env)).any (·.1) = false := by rfl) :
    PE (X.suite a ((a, oe) :: pn)) (.Call (.Name "isinstance" p) [e, .Name x p2] [] pos) (tEb i a b) := PE.imp (pe_callB (call_isE C hz hf) hgI hI (by decide +kernel) (pa_cons he (pa_cons (pe_glob (v := .ref c) hg hm rfl hd) pa_nil h2) h1) (by decide) (by decide) h1 hpl) (by
  rintro σ H Q ⟨h1, h2⟩
  exact ⟨_, h1, .ref c, .ref c, b, rfl, fun _ r => r, k, h2⟩)
theorem pe_isVal (C : ExcC X.K D) (hz : Zc (.ref D) none oe) (hf : ∃ vs, oe.data = .fields vs) (hI : X.mg "isinstance" = none) (hm : X.mg "ValueError" = none) (k : PySem.W.kitOne X.K (.ref D) (.type "ValueError") = some b) (he : PE (X.suite a ((a, oe) :: pn)) e (tVar i))
    (hgI : Gl (X.suite a ((a, oe) :: pn)) "isinstance") (hg : Gl (X.suite a ((a, oe) :: pn)) "ValueError")
    (h1 : starEach [e, .Name "ValueError" p2] X.env = (false, eval e X.env) :: starEach [.Name "ValueError" p2] X.env := by rfl) (h2 : starEach [.Name "ValueError" p2] X.env = (false, eval (.Name "ValueError" p2) X.env) :: starEach [] X.env := by rfl) (hpl : (backTo pos (starEach [.Name "ValueError" p2] X.env)).any (·.1) = false := by rfl) :
    PE (X.suite a ((a, oe) :: pn)) (.Call (.Name "isinstance" p) [e, .Name "ValueError" p2] [] pos) (tEb i a b) := PE.imp (pe_callB (call_isE C hz hf) hgI hI (by decide +kernel) (pa_cons he (pa_cons (pe_bltn (v := .ty "ValueError") hg hm (by decide +kernel) rfl) pa_nil h2) h1) (by decide) (by decide) h1 hpl) (by
  rintro σ H Q ⟨h1, h2⟩
  exact ⟨_, h1, .ty "ValueError", .type "ValueError", b, rfl, fun _ r => r, k, h2⟩)
variable {es : List Expr} {e2 : Expr}
theorem pt_b (h : PE X e (tEb i a b)) (he : ∀ whole, isTrue e X.env whole = (do let v ← whole; standAt e.pos; holding [v] (truthy v)) := by intro _; rfl) : PT X e (tTb i a b) := PT.imp (pt_val h he) (by
  rintro σ H Q ⟨h1, h2⟩
  exact ⟨h1, b, rfl, h2⟩)
theorem pw_orF1 (h : PT X e (tTb i a b)) : PW X (.BoolOp .Or [e] pos) (tTb i a b) := pw_or1 h
theorem pw_orF (h : PT X e (tTb i a false)) (h2 : PW X (.BoolOp .Or (e2 :: es) pos) (tTb i a b)) : PW X (.BoolOp .Or (e :: e2 :: es) pos) (tTb i a b) := PW.imp (pw_or h h2) (by
  rintro σ H Q ⟨h1, h2⟩
  exact ⟨h1, h1, h2⟩)
theorem pe_andT1 {op} (h : PE X e (tEb i a b)) : PE X (.BoolOp op [e] pos) (tEb i a b) := pe_one h
theorem pe_andT (h : PE X e (tEb i a true)) (h2 : PE X (.BoolOp .And (e2 :: es) pos) (tEb i a b)) : PE X (.BoolOp .And (e :: e2 :: es) pos) (tEb i a b) := PE.imp (pe_and h h2) (by
  rintro σ H Q ⟨h1, h2⟩
  exact ⟨h1, true, rfl, h1, h2⟩)
theorem pss_ifF {body : List Stmt} {rest : List Stmt} {u : TS} (h : PT X e (tTb i a false)) (hb : PSs X body u) (hr : PSs X rest (tSb i a b)) : PSs X (.If e body [] pos :: rest) (tSb i a b) := PSs.imp (pss_cons (ps_if h hb pss_nil) hr) (by
  rintro E σ H ⟨h1, h2⟩
  exact ⟨h1, h1, h2⟩)
theorem pss_retB (h : PE X e (tEb i a b)) : PSs X [.Return (some e) pos] (tSb i a b) := PSs.imp (pss_one (ps_ret h)) fun _ _ _ z => z
end
/-! ### try: body, except NetError as e: a truth -/
def sTryB (i : Nat) (body : En → M Fl) (g : X4 → Option Bool) : En → M Fl := fun env cs => if i < env.length then (match body env cs with
  | .ok f cs' => .ok f cs'
  | .ex .lines cs' => (match g .lines with
    | some b => .ok (.rt (.bl b)) cs'
    | none => .no)
  | .ex .thing cs' => (match g .thing with
    | some b => .ok (.rt (.bl b)) cs'
    | none => .no)
  | .ex .kind cs' => (match g .kind with
    | some b => .ok (.rt (.bl b)) cs'
    | none => .no)
  | .ex .nonet cs' => (match g .nonet with
    | some b => .ok (.rt (.bl b)) cs'
    | none => .no)
  | _ => .no) else .no
theorem sTryB4 (i : Nat) (body : En → M Fl) (g : X4 → Option Bool) (env : En) (cs cs' : Cs) (y : X4) (hi : i < env.length) (h : body env cs = .ex y.e cs') : sTryB i body g env cs = (match g y with
    | some b => .ok (.rt (.bl b)) cs'
    | none => .no) := by
  unfold sTryB
  rw [if_pos hi, h]
  cases y <;> rfl
theorem gs_tryB {X : Cx} {ct : Ct} {W : WX} {ne : Addr} {i : Nat} {n : Str} {mb : En → M Fl} {g : X4 → Option Bool} {body suite : List Stmt} {b₀ : Stmt} {np pos pos' : Pos} (T : Xt X.K X.mg ct ne) (hs : X.stack = X.env :: X.outer) (hf : X.env.frame = some X.env.locals) (hN : X.N.Nodup) (hi : X.N[i]? = some n) (hln : X.env.kindOf n = some .local) (hg : Gl X "NetError") (tk : Takes X W)
    (hb : ∀ (W : WX) (pn : List (Addr × Obj)) (xe : Value → Shared → Prop), Takes (X.tr pn xe) W → PassesOwn (model X.prog X.w) X.A X.env xe → PSs (X.tr pn xe) body (tS X.K ct W mb))
    (hsu : ∀ (y : X4) (b : Bool), g y = some b → ∀ (a : Addr) (oe : Obj) (pn : List (Addr × Obj)), Zc (.ref (ct.at4 y)) none oe → (∃ vs, oe.data = .fields vs) → PSs (X.suite a ((a, oe) :: pn)) (b₀ :: suite) (tSb i a b)) :
    PS X (.Try body [.ExceptHandler (some (.Name "NetError" np)) (some n) (b₀ :: suite) pos'] [] [] pos) (tS X.K ct W (sTryB i mb g)) := by
  refine PS.imp (ps_try_as (i := i) (c := .ref ne) (Wout := W) (ts := fun a cls d => fun E σ H => ∃ y b, g y = some b ∧ cls = .ref (ct.at4 y) ∧ d = none ∧ σ[i]? = some (some (.ref a)) ∧ E.rt (.bl b) H) hs hf hN hi hln ⟨hg, by decide, .inl T.mgE⟩ tk hb fun a oe cls d pn hz hfl => ?_) ?_
  · refine ⟨fun pins s σ H E I w => ?_⟩
    obtain ⟨y, b, hy, rfl, rfl, h1, h2⟩ := w
    exact (hsu y b hy a oe pn hz hfl).run pins s σ H E I ⟨h1, h2⟩
  · rintro E σ H ⟨F, as, env, cs, ok, sl, h⟩
    refine ⟨F, as, env, cs, ok, sl, ?_⟩
    by_cases hi0 : i < env.length
    case neg =>
      unfold sTryB at h
      rw [if_neg hi0] at h
      exact False.elim h
    cases q : mb env cs with
    | no =>
      unfold sTryB at h
      rw [if_pos hi0, q] at h
      exact h
    | ok f cs2 =>
      unfold sTryB at h
      rw [if_pos hi0, q] at h
      exact h
    | ex x cs2 =>
      intro c d σ' F1 H1 as1 hl g1 ok1 hx
      have main : ∀ y : X4, x = y.e → wAs X.K (.ref ne) i (fun a cls d => fun E σ H => ∃ y b, g y = some b ∧ cls = .ref (ct.at4 y) ∧ d = none ∧ σ[i]? = some (some (.ref a)) ∧ E.rt (.bl b) H) W E c d σ' H1 := fun y hy => by
        subst hy
        rw [sTryB4 i mb g env cs cs2 y hi0 q] at h
        have ec : c = .ref (ct.at4 y) ∧ d = none := by cases y <;> exact hx
        obtain ⟨rfl, rfl⟩ := ec
        refine ⟨true, T.em y, fun _ a _ => ?_, fun z => nomatch z⟩
        cases q2 : g y with
        | none =>
          rw [q2] at h
          exact False.elim h
        | some b =>
          rw [q2] at h
          have hi' : i < σ'.length := by
            rw [hl, sl.len]
            exact hi0
          exact ⟨y, b, q2, rfl, rfl, by rw [List.getElem?_set_self hi'], h F1 H1 as1 g1 ok1 _ (.bl b)⟩
      cases x with
      | lines => exact main .lines rfl
      | thing => exact main .thing rfl
      | kind => exact main .kind rfl
      | nonet => exact main .nonet rfl
      | net o =>
        unfold sTryB at h
        rw [if_pos hi0, q] at h
        exact False.elim h
end G
namespace G
open L2 PySem PySem.Spec PyProof.Rows
/-- a law that says True of every script -/
theorem law_ends {K : PySem.W.Frag} {ct : Ct} {H : Hp} {a : Addr} {ns : List Int} {f : List D → Rp} (hS : SqL K H a (ns.map V.int)) (h : f [.scr ns] = .ok (.bl true)) : spP K ct 1 f [.ref a] H (fun v _ => v = .bl true) fun _ _ _ => False := by
  refine ⟨H, [.scr ns], ⟨Ext.refl H, List.nodup_nil, rfl, fun i a xs h _ => by simp at h⟩, .cons (.scr hS) .nil, rfl, ?_⟩
  rw [h]
  intro F' H' as' _ _ v hv
  cases hv
  rfl
end G
namespace G
open L2 PySem PySem.Spec PyProof.Rows
/-- the end of a law whose defs let own errors out -/
theorem walk_own {l : PySem.W.OpenLaw} {n k : Nat} {q : Program} {loose : List Str} {XP : (Str → Option Value) → Heap → Prop} {YP : World → Heap → Prop} {d : DefRec} {x : Str}
    (hn : l.most = some n) (hn2 : n ≤ sizeLine) (hdf : d.params.defaults = []) (hr : Room k callerA)
    (F : ∀ (w : World) (mg : Str → Option Value) (fa : Addr) (h : Heap), YP w h → h.Ns mainGlobals mg → mg d.name = some (.ref fa) →
      ∃ (K : PySem.W.Frag) (fd : FuncData) (ct : Ct) (f : List D → Rp), K.In h ∧ (∀ (s : Shared) (u : Value), BindsTo s fd ⟨[u], []⟩ [(x, u)]) ∧
        (∀ ns : List Int, ns.length ≤ n → f [.scr ns] = .ok (.bl true)) ∧
        ∀ base : Heap, K.In base → base.Ns mainGlobals mg → FnP l.prog w K mg base k fa fd [x] (spP K ct 1 f)) :
    PySem.W.WalkO q loose XP YP l.row.toRowW d [] (fun f vs => PySem.call f vs) := by
  refine Att.attach_call hn hdf fun w s₀ s₁ mg mb fa o pm cd doc a vs ns Gs Y ho hd hcd hmg hobj hints hlen hg => ?_
  obtain ⟨K, fd, ct, f, KX, hb, hf, hF⟩ := F w mg fa _ Y Gs.T.g hmg
  refine law_call KX Gs.T.g Gs.T.b Gs.T.builtins Gs.T.nolimit hg hobj hints (Nat.le_trans hlen hn2) hr hF hb (fun H _ hS => law_ends hS (hf ns hlen)) fun H e s' z => ?_
  obtain ⟨a, B, H', cls, d, _, _, _, _, _, _, _, z⟩ := z
  exact z
end G
/-! G8: plain: loops by invariants, data of nets. -/
namespace G
open L2 PySem PySem.Spec PyProof.Rows
/-! ### loops -/
theorem seq_nx {a b : En → M Fl} {env e : En} {cs cs1 : Cs} (h : a env cs = .ok (.nx e) cs1) : sSeq a b env cs = b e cs1 := by
  show M.bnd (a env) _ cs = _
  rw [M.bnd_ok h]
theorem asg_nm {m : En → M D} {i : Nat} {env : En} {cs cs1 : Cs} {d : D} (h : m env cs = .ok d cs1) : sAsg m (.nm i) env cs = .ok (.nx (env.set i (some d))) cs1 := by
  show M.bnd (m env) _ cs = _
  rw [M.bnd_ok h]
  rfl
theorem drop_nx {m : En → M D} {env : En} {cs cs1 : Cs} {d : D} (h : m env cs = .ok d cs1) : sDrop m env cs = .ok (.nx env) cs1 := by
  show M.bnd (m env) _ cs = _
  rw [M.bnd_ok h]
  rfl
theorem ret_rt {m : En → M D} {env : En} {cs cs1 : Cs} {d : D} (h : m env cs = .ok d cs1) : sRet m env cs = .ok (.rt d) cs1 := by
  show M.bnd (m env) _ cs = _
  rw [M.bnd_ok h]
  rfl
theorem if_f {t : En → M Bool} {a b : En → M Fl} {env : En} {cs cs1 : Cs} (h : t env cs = .ok false cs1) : sIf t a b env cs = b env cs1 := by
  show M.bnd (t env) _ cs = _
  rw [M.bnd_ok h]
  rfl
theorem if_t {t : En → M Bool} {a b : En → M Fl} {env : En} {cs cs1 : Cs} (h : t env cs = .ok true cs1) : sIf t a b env cs = a env cs1 := by
  show M.bnd (t env) _ cs = _
  rw [M.bnd_ok h]
  rfl
theorem val_b {m : En → M D} {env : En} {cs cs1 : Cs} {k : Bool} (h : m env cs = .ok (.bl k) cs1) : bVal m env cs = .ok k cs1 := by
  show M.bnd (m env) _ cs = _
  rw [M.bnd_ok h]
  rfl
theorem not_b {t : En → M Bool} {env : En} {cs cs1 : Cs} {k : Bool} (h : t env cs = .ok k cs1) : bNot t env cs = .ok (!k) cs1 := by
  show M.bnd (t env) _ cs = _
  rw [M.bnd_ok h]
  rfl
theorem or_f {a b : En → M Bool} {env : En} {cs cs1 : Cs} (h : a env cs = .ok false cs1) : bOr a b env cs = b env cs1 := by
  show M.bnd (a env) _ cs = _
  rw [M.bnd_ok h]
  rfl
theorem or_t {a b : En → M Bool} {env : En} {cs cs1 : Cs} (h : a env cs = .ok true cs1) : bOr a b env cs = .ok true cs1 := by
  show M.bnd (a env) _ cs = _
  rw [M.bnd_ok h]
  rfl
theorem and_t {a b : En → M Bool} {env : En} {cs cs1 : Cs} (h : a env cs = .ok true cs1) : bAnd a b env cs = b env cs1 := by
  show M.bnd (a env) _ cs = _
  rw [M.bnd_ok h]
  rfl
theorem and_f {a b : En → M Bool} {env : En} {cs cs1 : Cs} (h : a env cs = .ok false cs1) : bAnd a b env cs = .ok false cs1 := by
  show M.bnd (a env) _ cs = _
  rw [M.bnd_ok h]
  rfl
theorem var_at {i : Nat} {env : En} {cs : Cs} {d : D} (h : env[i]? = some (some d)) : xVar i env cs = .ok d cs := by
  unfold xVar
  rw [h]
  rfl
theorem bin_ok {f : D → D → M D} {a b : En → M D} {env : En} {cs cs1 cs2 : Cs} {x y : D} (h : a env cs = .ok x cs1) (h2 : b env cs1 = .ok y cs2) : xBin f a b env cs = f x y cs2 := by
  show M.bnd (a env) _ cs = _
  rw [M.bnd_ok h, M.bnd_ok h2]
theorem un_ok {f : D → M D} {a : En → M D} {env : En} {cs cs1 : Cs} {x : D} (h : a env cs = .ok x cs1) : xUn f a env cs = f x cs1 := by
  show M.bnd (a env) _ cs = _
  rw [M.bnd_ok h]
theorem cons_ok {a : En → M D} {r : En → M (List D)} {env : En} {cs cs1 cs2 : Cs} {x : D} {xs : List D} (h : a env cs = .ok x cs1) (h2 : r env cs1 = .ok xs cs2) : aCons a r env cs = .ok (x :: xs) cs2 := by
  show M.bnd (a env) _ cs = _
  rw [M.bnd_ok h, M.bnd_ok h2]
  rfl
theorem callP_ok {f : List D → Rp} {a : En → M (List D)} {env : En} {cs cs1 : Cs} {xs : List D} {d : D} (h : a env cs = .ok xs cs1) (hn : noRL xs = true) (hf : f xs = .ok d) : xCallP f a env cs = .ok d cs1 := by
  show M.bnd (a env) _ cs = _
  rw [M.bnd_ok h]
  show (if noRL xs = true then up (f xs) else M.no) cs1 = _
  rw [if_pos hn, hf]
  rfl
theorem callO2_ok {f : List D → Rp2} {a : En → M (List D)} {env : En} {cs cs1 : Cs} {xs : List D} {L : List (List D)} (h : a env cs = .ok xs cs1) (hn : noRL xs = true) (hf : f xs = .ok L) (hL : L.all noRL = true) : xCallO2 f a env cs = .ok (.lst (refsN cs1.length L.length)) (cs1 ++ L) := by
  show M.bnd (a env) _ cs = _
  rw [M.bnd_ok h]
  show (if noRL xs = true then (match f xs with
    | .ok L => if L.all noRL = true then .ok (.lst (refsN cs1.length L.length)) (cs1 ++ L) else .no
    | .ex x => .ex x cs1
    | .no => .no) else (.no : Rs D)) = _
  rw [if_pos hn, hf]
  show (if L.all noRL = true then _ else _) = _
  rw [if_pos hL]
theorem call_ok {g : List D → M D} {a : En → M (List D)} {env : En} {cs cs1 : Cs} {xs : List D} (h : a env cs = .ok xs cs1) : xCall g a env cs = g xs cs1 := by
  show M.bnd (a env) _ cs = _
  rw [M.bnd_ok h]
/-- a for loop that runs through -/
theorem forGo_inv {live : Cs → Bool} {t : Tg} {b : En → M Fl} (I : Nat → En → Cs → Prop) {xs : List D}
    (hl : ∀ i env cs, I i env cs → live cs = true)
    (hs : ∀ i x env cs, xs[i]? = some x → I i env cs → ∃ env1, tgS t x env = some env1 ∧ ∃ e' cs', b env1 cs = .ok (.nx e') cs' ∧ I (i + 1) e' cs') :
    ∀ {env : En} {cs : Cs}, I 0 env cs → ∃ e' cs', forGo live t b xs env cs = .ok (.nx e') cs' ∧ I xs.length e' cs' := by
  have gen : ∀ (ys : List D) (k : Nat), xs.drop k = ys → k ≤ xs.length → ∀ {env : En} {cs : Cs}, I k env cs → ∃ e' cs', forGo live t b ys env cs = .ok (.nx e') cs' ∧ I xs.length e' cs' := fun ys => by
    induction ys with
    | nil =>
      intro k e hk env cs h
      have ek := drop_nil e hk
      refine ⟨env, cs, ?_, by rw [← ek]; exact h⟩
      show guardM live _ cs = _
      unfold guardM
      rw [if_pos (hl _ _ _ h)]
      rfl
    | cons y ys ih =>
      intro k e hk env cs h
      obtain ⟨hx, hr, hlt⟩ := getElem_drop e
      obtain ⟨env1, h1, e', cs', h2, h3⟩ := hs k y env cs hx h
      obtain ⟨e2, cs2, h4, h5⟩ := ih (k + 1) hr hlt h3
      refine ⟨e2, cs2, ?_, h5⟩
      show guardM live (match tgS t y env with
        | some env1 => M.bnd (b env1) _
        | none => M.no) cs = _
      unfold guardM
      rw [if_pos (hl _ _ _ h), h1]
      show M.bnd (b env1) _ cs = _
      rw [M.bnd_ok h2]
      exact h4
  exact fun {env cs} h => gen xs 0 rfl (Nat.zero_le _) h
theorem for_inv {it : En → M It0} {t : Tg} {b : En → M Fl} {xs : List D} {live : Cs → Bool} {env : En} {cs cs1 : Cs} (I : Nat → En → Cs → Prop) (hi : it env cs = .ok ⟨xs, live⟩ cs1)
    (hl : ∀ i env cs, I i env cs → live cs = true)
    (hs : ∀ i x env cs, xs[i]? = some x → I i env cs → ∃ env1, tgS t x env = some env1 ∧ ∃ e' cs', b env1 cs = .ok (.nx e') cs' ∧ I (i + 1) e' cs') (h0 : I 0 env cs1) :
    ∃ e' cs', sFor it t b env cs = .ok (.nx e') cs' ∧ I xs.length e' cs' := by
  obtain ⟨e', cs', h1, h2⟩ := forGo_inv (t := t) (b := b) I hl hs h0
  refine ⟨e', cs', ?_, h2⟩
  show M.bnd (it env) _ cs = _
  rw [M.bnd_ok hi]
  exact h1
/-- a comprehension without a test whose items are reckoned one by one -/
theorem lcGo_map {live : Cs → Bool} {t : Tg} {te : En → M D} {env : En} {cs : Cs} (g : D → D) (hl : live cs = true) : ∀ {xs : List D}, (∀ x ∈ xs, ∃ env1, tgS t x env = some env1 ∧ te env1 cs = .ok (g x) cs) → lcGo live t bYes te env xs cs = .ok (xs.map g) cs
  | [], _ => by
    show guardM live _ cs = _
    unfold guardM
    rw [if_pos hl]
    rfl
  | x :: r, h => by
    obtain ⟨env1, h1, h2⟩ := h x List.mem_cons_self
    show guardM live (match tgS t x env with
      | some env1 => _
      | none => M.no) cs = _
    unfold guardM
    rw [if_pos hl, h1]
    show M.bnd (te env1) _ cs = _
    rw [M.bnd_ok h2, M.bnd_ok (lcGo_map g hl fun y hy => h y (List.mem_cons_of_mem _ hy))]
    rfl
theorem lc_map {c : Bool} {it : En → M It0} {own : List Nat} {t : Tg} {te : En → M D} {env : En} {cs cs1 : Cs} {xs : List D} {live : Cs → Bool} (g : D → D) (hi : it env cs = .ok ⟨xs, live⟩ cs1) (hl : live cs1 = true) (hz : szOk xs.length = true)
    (h : ∀ x ∈ xs, ∃ env1, tgS t x (wip env own) = some env1 ∧ te env1 cs1 = .ok (g x) cs1) : xLcN c it own t bYes te env cs = mkL c (xs.map g) cs1 := by
  show M.bnd (it env) _ cs = _
  rw [M.bnd_ok hi]
  show (if szOk xs.length = true then M.bnd (noX (lcGo live t bYes te (wip env own) xs)) _ else M.no) cs1 = _
  rw [if_pos hz]
  have e : noX (lcGo live t bYes te (wip env own) xs) cs1 = .ok (xs.map g) cs1 := by
    unfold noX
    rw [lcGo_map g hl h]
  rw [M.bnd_ok e]
/-! ### nets -/
abbrev Net := List (List (Int × Int))
def layD (xs : List (Int × Int)) : List D := xs.map pairD
def netD (N : Net) : D := .lst (N.map fun xs => .lst (layD xs))
def pyP (p : Int × Int) : PyData := .tuple [.int p.1, .int p.2]
def pyL (xs : List (Int × Int)) : PyData := .list (xs.map pyP)
def pyNet (N : Net) : PyData := .list (N.map pyL)
theorem pyGL_lay {r : Nat → Option PyData} : ∀ xs : List (Int × Int), pyGL r (layD xs) = some (xs.map pyP)
  | [] => rfl
  | p :: xs => by
    show (match pyG r (pairD p), pyGL r (layD xs) with
      | some p, some ps => some (p :: ps)
      | _, _ => none) = _
    rw [pyGL_lay xs]
    rfl
theorem pyGL_net {r : Nat → Option PyData} : ∀ N : Net, pyGL r (N.map fun xs => .lst (layD xs)) = some (N.map pyL)
  | [] => rfl
  | xs :: N => by
    show (match (pyGL r (layD xs)).map PyData.list, pyGL r (N.map fun xs => .lst (layD xs)) with
      | some p, some ps => some (p :: ps)
      | _, _ => none) = _
    rw [pyGL_net N, pyGL_lay xs]
    rfl
theorem py_net (cs : Cs) (N : Net) : py cs (netD N) = some (pyNet N) := by
  show (pyGL _ (N.map fun xs => .lst (layD xs))).map PyData.list = _
  rw [pyGL_net]
  rfl
theorem py_lay (cs : Cs) (xs : List (Int × Int)) : py cs (.lst (layD xs)) = some (pyL xs) := by
  show (pyGL _ (layD xs)).map PyData.list = _
  rw [pyGL_lay]
  rfl
theorem py_cell {cs : Cs} {i : Nat} {xs : List (Int × Int)} (h : cs[i]? = some (layD xs)) : py cs (.ref i) = some (pyL xs) := by
  show (match cs[i]? with
    | some xs => (pyGL (pyN cs 2) xs).map PyData.list
    | none => none) = _
  rw [h]
  show (pyGL (pyN cs 2) (layD xs)).map PyData.list = _
  rw [pyGL_lay]
  rfl
theorem pyGL_cells {cs : Cs} : ∀ (N : Net) (is : List Nat), is.length = N.length → (∀ (j i : Nat) (xs : List (Int × Int)), is[j]? = some i → N[j]? = some xs → cs[i]? = some (layD xs)) → pyGL (pyN cs 3) (is.map D.ref) = some (N.map pyL)
  | [], [], _, _ => rfl
  | xs :: N, i :: is, hl, h => by
    have h1 := py_cell (h 0 i xs rfl rfl)
    show (match py cs (.ref i), pyGL (pyN cs 3) (is.map D.ref) with
      | some p, some ps => some (p :: ps)
      | _, _ => none) = _
    rw [h1, pyGL_cells N is (by simpa using hl) fun j k ys hj hy => h (j + 1) k ys (by simpa using hj) (by simpa using hy)]
    rfl
  | [], _ :: _, hl, _ => by cases hl
  | _ :: _, [], hl, _ => by cases hl
theorem py_cells {cs : Cs} {N : Net} {is : List Nat} (hl : is.length = N.length) (h : ∀ (j i : Nat) (xs : List (Int × Int)), is[j]? = some i → N[j]? = some xs → cs[i]? = some (layD xs)) : py cs (.lst (is.map D.ref)) = some (pyNet N) := by
  show (pyGL (pyN cs 3) (is.map D.ref)).map PyData.list = _
  rw [pyGL_cells N is hl h]
  rfl
theorem lay_pyP : ∀ xs : List (Int × Int), PyData.canLayAll0 (xs.map pyP) = true ∧ PyData.depthAll (xs.map pyP) ≤ 1
  | [] => ⟨rfl, by simp [PyData.depthAll]⟩
  | p :: xs => by
    obtain ⟨h1, h2⟩ := lay_pyP xs
    constructor
    · simp [PyData.canLayAll0, PyData.canLay0, pyP, h1]
    · simp [PyData.depthAll, PyData.depth, pyP]
      omega
theorem lay_pyL : ∀ N : Net, PyData.canLayAll0 (N.map pyL) = true ∧ PyData.depthAll (N.map pyL) ≤ 2
  | [] => ⟨rfl, by simp [PyData.depthAll]⟩
  | xs :: N => by
    obtain ⟨h1, h2⟩ := lay_pyL N
    obtain ⟨h3, h4⟩ := lay_pyP xs
    constructor
    · simp [PyData.canLayAll0, PyData.canLay0, pyL, h1, h3]
    · simp [PyData.depthAll, PyData.depth, pyL]
      omega
theorem shaped_pyL (xs : List (Int × Int)) : SeqAt.shaped (pyL xs) = true := by
  obtain ⟨h1, h2⟩ := lay_pyP xs
  simp [SeqAt.shaped, pyL, PyData.canLay0, PyData.depth, h1]
  omega
theorem shaped_pyNet (N : Net) : SeqAt.shaped (pyNet N) = true := by
  obtain ⟨h1, h2⟩ := lay_pyL N
  simp [SeqAt.shaped, pyNet, PyData.canLay0, PyData.depth, h1]
  omega
theorem eqvAll_pyP : ∀ xs ys : List (Int × Int), PyData.eqvAll (xs.map pyP) (ys.map pyP) = decide (xs = ys)
  | [], [] => by simp [PyData.eqvAll]
  | [], _ :: _ => by simp [PyData.eqvAll]
  | _ :: _, [] => by simp [PyData.eqvAll]
  | p :: xs, q :: ys => by
    obtain ⟨p1, p2⟩ := p
    obtain ⟨q1, q2⟩ := q
    simp only [List.map_cons, PyData.eqvAll, eqvAll_pyP xs ys, pyP, PyData.eqv]
    by_cases h1 : p1 = q1 <;> by_cases h2 : p2 = q2 <;> by_cases h3 : xs = ys <;> simp [h1, h2, h3]
theorem eqv_pyL (xs ys : List (Int × Int)) : PyData.eqv (pyL xs) (pyL ys) = decide (xs = ys) := by
  unfold pyL
  rw [PyData.eqv]
  exact eqvAll_pyP xs ys
theorem eqvAll_pyL : ∀ N M : Net, PyData.eqvAll (N.map pyL) (M.map pyL) = decide (N = M)
  | [], [] => by simp [PyData.eqvAll]
  | [], _ :: _ => by simp [PyData.eqvAll]
  | _ :: _, [] => by simp [PyData.eqvAll]
  | xs :: N, ys :: M => by
    rw [List.map_cons, List.map_cons, PyData.eqvAll, eqvAll_pyL N M, eqv_pyL]
    by_cases h1 : xs = ys <;> by_cases h2 : N = M <;> simp [h1, h2]
theorem eqv_pyNet (N M : Net) : PyData.eqv (pyNet N) (pyNet M) = decide (N = M) := by
  unfold pyNet
  rw [PyData.eqv]
  exact eqvAll_pyL N M
theorem eq_net {b : Bool} {cs : Cs} {d e : D} {N M : Net} (h1 : py cs d = some (pyNet N)) (h2 : py cs e = some (pyNet M)) : opEq b d e cs = .ok (.bl (if b = true then decide (N = M) else !decide (N = M))) cs := by
  unfold opEq
  rw [h1, h2]
  show (if (SeqAt.shaped (pyNet N) && SeqAt.shaped (pyNet M)) = true then _ else _) = _
  rw [shaped_pyNet, shaped_pyNet, if_pos (show (true && true) = true from rfl), eqv_pyNet]
theorem eq_lay {b : Bool} {cs : Cs} {d e : D} {N M : List (Int × Int)} (h1 : py cs d = some (pyL N)) (h2 : py cs e = some (pyL M)) : opEq b d e cs = .ok (.bl (if b = true then decide (N = M) else !decide (N = M))) cs := by
  unfold opEq
  rw [h1, h2]
  show (if (SeqAt.shaped (pyL N) && SeqAt.shaped (pyL M)) = true then _ else _) = _
  rw [shaped_pyL, shaped_pyL, if_pos (show (true && true) = true from rfl), eqv_pyL]
theorem noR_lay : ∀ xs : List (Int × Int), noRL (layD xs) = true
  | [] => rfl
  | p :: xs => by
    show (noR (pairD p) && noRL (layD xs)) = true
    rw [noR_lay xs]
    rfl
theorem all_noR (N : Net) : (N.map layD).all noRL = true := by
  rw [List.all_eq_true]
  intro x hx
  obtain ⟨xs, _, rfl⟩ := List.mem_map.mp hx
  exact noR_lay xs
theorem eqDL_refl_lay : ∀ xs : List (Int × Int), eqDL (layD xs) (layD xs) = true
  | [] => rfl
  | p :: xs => by
    show (eqD (pairD p) (pairD p) && eqDL (layD xs) (layD xs)) = true
    rw [eqDL_refl_lay xs]
    show (((p.1 == p.1) && ((p.2 == p.2) && true)) && true) = true
    simp
/-- from a checked list of lists to a net -/
def toNet : List (List D) → Option Net
  | [] => some []
  | xs :: r => match pairsOf xs, toNet r with
    | some p, some q => some (p :: q)
    | _, _ => none
theorem toNet_eq : ∀ {L : List (List D)} {N : Net}, toNet L = some N → L = N.map layD
  | [], N, e => by
    cases e
    rfl
  | xs :: r, N, e => by
    have e2 : (match pairsOf xs, toNet r with
      | some p, some q => some (p :: q)
      | _, _ => none) = some N := e
    split at e2
    · rename_i p q e3 e4
      cases e2
      rw [pairsOf_map e3, toNet_eq e4]
      rfl
    · cases e2
def isT : Rp → Bool
  | .ok (.bl true) => true
  | _ => false
theorem isT_eq {r : Rp} (h : isT r = true) : r = .ok (.bl true) := by
  unfold isT at h
  split at h
  · rfl
  · cases h
end G
namespace G
open L2 PySem PySem.Spec PyProof.Rows
theorem seq_rt {a b : En → M Fl} {env : En} {cs cs1 : Cs} {d : D} (h : a env cs = .ok (.rt d) cs1) : sSeq a b env cs = .ok (.rt d) cs1 := by
  show M.bnd (a env) _ cs = _
  rw [M.bnd_ok h]
  rfl
theorem runP_rt {c : En → M Fl} {k : Nat} {ds : List D} {d p : D} {cs : Cs} (h : c (startE k ds) [] = .ok (.rt d) cs) (hr : res cs d = some p) : runP c k ds = .ok p := by
  unfold runP
  rw [h]
  show (match res cs d with
    | some p => Rp.ok p
    | none => Rp.no) = _
  rw [hr]
theorem runP_nx {c : En → M Fl} {k : Nat} {ds : List D} {e : En} {cs : Cs} (h : c (startE k ds) [] = .ok (.nx e) cs) : runP c k ds = .ok .non := by
  unfold runP
  rw [h]
theorem runP_ex {c : En → M Fl} {k : Nat} {ds : List D} {x : Exn} {cs : Cs} (h : c (startE k ds) [] = .ex x cs) : runP c k ds = .ex x := by
  unfold runP
  rw [h]
theorem atI_map_int (ns : List Int) (k : Nat) (h : k < ns.length) : atI (ns.map D.int) (k : Int) = some (.int ns[k]) := by
  unfold atI ixN
  rw [List.length_map, if_pos (by omega), if_pos (by omega)]
  simp [h]
theorem guard_ok {live : Cs → Bool} {α : Type} {m : M α} {cs : Cs} (h : live cs = true) : guardM live m cs = m cs := by
  unfold guardM
  rw [if_pos h]
end G
namespace G
open L2 PySem PySem.Spec PyProof.Rows
theorem blsOf_map {α : Type} (g : α → Bool) : ∀ xs : List α, blsOf (xs.map fun x => D.bl (g x)) = some (xs.map g)
  | [] => rfl
  | x :: xs => by
    show (blsOf (xs.map fun x => D.bl (g x))).map (g x :: ·) = _
    rw [blsOf_map g xs]
    rfl
/-- all([.. for p in layer]) over a cell's pairs, each item true -/
theorem all_true {te : En → M D} {env : En} {cs : Cs} {j s i : Nat} {xs : List (Int × Int)} (he : env[j]? = some (some (.ref i))) (hc : cs[i]? = some (layD xs)) (hz : xs.length ≤ 1000000)
    (h : ∀ p ∈ xs, te ((wip env [s]).set s (some (pairD p))) cs = .ok (.bl true) cs) : xCall opAll (aCons (xLcN false (itSeq (xVar j)) [s] (.nm s) bYes te) aNil) env cs = .ok (.bl true) cs := by
  have hi : itSeq (xVar j) env cs = .ok ⟨layD xs, liveOf (layD xs) (.ref i)⟩ cs := by
    show M.bnd (xVar j env) _ cs = _
    rw [M.bnd_ok (var_at he)]
    show (match cs[i]? with
      | some xs => Rs.ok (It0.mk xs (liveOf xs (.ref i))) cs
      | none => .no) = _
    rw [hc]
  have hl : liveOf (layD xs) (.ref i) cs = true := by
    show (match cs[i]? with
      | some ys => eqDL ys (layD xs)
      | none => false) = true
    rw [hc]
    exact eqDL_refl_lay xs
  have e : xLcN false (itSeq (xVar j)) [s] (.nm s) bYes te env cs = .ok (.lst ((layD xs).map fun _ => D.bl true)) cs := by
    rw [lc_map (fun _ => D.bl true) hi hl (by unfold layD szOk; rw [List.length_map]; exact decide_eq_true hz) fun x hx => ?_]
    · rfl
    · obtain ⟨p, hp, rfl⟩ := List.mem_map.mp hx
      exact ⟨_, rfl, h p hp⟩
  rw [call_ok (cons_ok e rfl)]
  show (match (some ((layD xs).map fun _ => D.bl true)).bind blsOf with
    | some bs => Rs.ok (D.bl (bs.all id)) cs
    | none => .no) = _
  rw [Option.bind_some, blsOf_map (fun _ => true)]
  have : ((layD xs).map fun _ => true).all id = true := by
    rw [List.all_eq_true]
    intro b hb
    obtain ⟨_, _, rfl⟩ := List.mem_map.mp hb
    rfl
  show Rs.ok (D.bl (((layD xs).map fun _ => true).all id)) cs = _
  rw [this]
end G
namespace G
open L2 PySem PySem.Spec PyProof.Rows
theorem app_ok {o v : En → M D} {env : En} {cs cs1 cs2 : Cs} {i : Nat} {y : D} {xs : List D} (h : o env cs = .ok (.ref i) cs1) (h2 : v env cs1 = .ok y cs2) (hc : cs2[i]? = some xs) (hz : xs.length ≤ 1000000) : xApp o v env cs = .ok .non (cs2.set i (xs ++ [y])) := by
  show M.bnd (o env) _ cs = _
  rw [M.bnd_ok h]
  show M.bnd (v env) _ cs1 = _
  rw [M.bnd_ok h2]
  unfold cApp
  rw [hc]
  show (if szOk xs.length = true then _ else _) = _
  rw [if_pos (show szOk xs.length = true from decide_eq_true hz)]
theorem itSeq_ok {m : En → M D} {env : En} {cs cs1 : Cs} {d : D} {xs : List D} (h : m env cs = .ok d cs1) (hs : seqOf cs1 d = some xs) : itSeq m env cs = .ok ⟨xs, liveOf xs d⟩ cs1 := by
  show M.bnd (m env) _ cs = _
  rw [M.bnd_ok h]
  show (match seqOf cs1 d with
    | some xs => Rs.ok (It0.mk xs (liveOf xs d)) cs1
    | none => .no) = _
  rw [hs]
theorem itZip_ok {m m' : En → M D} {env : En} {cs cs1 cs2 : Cs} {d e : D} {xs ys : List D} (h : m env cs = .ok d cs1) (h2 : m' env cs1 = .ok e cs2) (hs : seqOf cs2 d = some xs) (hs2 : seqOf cs2 e = some ys) :
    itZip m m' env cs = .ok ⟨(xs.zip ys).map fun p => .tup [p.1, p.2], fun cs' => liveOf xs d cs' && liveOf ys e cs'⟩ cs2 := by
  show M.bnd (m env) _ cs = _
  rw [M.bnd_ok h]
  show M.bnd (m' env) _ cs1 = _
  rw [M.bnd_ok h2]
  show (match seqOf cs2 d, seqOf cs2 e with
    | some xs, some ys => Rs.ok (It0.mk ((xs.zip ys).map fun (p : D × D) => .tup [p.1, p.2]) fun cs' => liveOf xs d cs' && liveOf ys e cs') cs2
    | _, _ => .no) = _
  rw [hs, hs2]
theorem refsN_get {n m j : Nat} {x : D} (h : (refsN n m)[j]? = some x) : j < m ∧ x = .ref (n + j) := by
  unfold refsN at h
  rw [List.getElem?_map] at h
  by_cases hj : j < m
  · rw [List.getElem?_range hj] at h
    exact ⟨hj, (Option.some.inj h).symm⟩
  · rw [List.getElem?_eq_none (by rw [List.length_range]; omega)] at h
    cases h
theorem refsN_eq (n m : Nat) : refsN n m = ((List.range m).map (n + ·)).map D.ref := by
  unfold refsN
  rw [List.map_map]
  rfl
theorem asP_ok {f : List D → Rp2} {ds : List D} {N : Net} (h : f ds = .ok (N.map layD)) : asP f ds = .ok (netD N) := by
  unfold asP
  rw [h]
  show (if (N.map layD).all noRL = true then _ else _) = _
  rw [if_pos (all_noR N), List.map_map]
  rfl
end G
namespace LK
open L2 G PySem PySem.Spec PyProof.Rows
def top (i : Nat) : Stmt := PySem.Challenge.pw_beginnet_k05_four_nets.main.body.getD i (.Pass ⟨0, 0, 0, 0⟩)
structure X4c (K : PySem.W.Frag) (mg : Str → Option Value) (x : Str) (C : Addr) : Prop where
  exc : PySem.W.excIn K C He.veBase "ValueError.__new__" = true
  mg : mg x = some (.ref C)
  keep : PySem.W.keepIn K (.ref C) = true
  sub : PySem.W.subIn K (.ref C) (.type "BaseException") = some true
  ty : PySem.W.typeIn K (.ref C) = some (.type "type")
theorem X4c.raises {X : Cx} {x : Str} {C : Addr} (h : X4c X.K X.mg x C) : Raises X (.ref C) := raises_own h.sub h.ty
structure Bt (K : PySem.W.Frag) (mg : Str → Option Value) (ct : Ct) : Prop where
  len : mg "len" = none
  isinstance : mg "isinstance" = none
  range : mg "range" = none
  int : mg "int" = none
  bool : mg "bool" = none
  str : mg "str" = none
  tuple : mg "tuple" = none
  list : mg "list" = none
  max : mg "max" = none
  min : mg "min" = none
  sum : mg "sum" = none
  all : mg "all" = none
  sorted : mg "sorted" = none
  reversed : mg "reversed" = none
  zip : mg "zip" = none
  abs : mg "abs" = none
  x_lines : X4c K mg "BadLines" ct.lines
  x_thing : X4c K mg "BadThing" ct.thing
  x_kind : X4c K mg "BadKind" ct.kind
  x_nonet : X4c K mg "NoNet" ct.nonet
  c_MOST_LINES : ∃ t, mg "MOST_LINES" = some (.int 64 t)
section
variable {P : Program} {w : World} {K : PySem.W.Frag} {mg : Str → Option Value} {base : Heap} {ct : Ct} {ne : Addr}
abbrev s_is_whole : Stmt := top 8
theorem sc_is_whole : FnScope ["thing"] ["thing"] (defScope s_is_whole) := ⟨rfl, rfl, rfl, by decide +kernel, rfl, by decide +kernel, by decide +kernel⟩
structure D_is_whole (P : Program) (w : World) (K : PySem.W.Frag) (mg : Str → Option Value) (base : Heap) (ct : Ct) : Prop where
  u_ : True
def c_is_whole : En → M Fl := sRet (xAnd (xUn (opIs .int) (xVar 0)) (xNot (xUn (opIs .bool) (xVar 0))))
def f_is_whole : List D → Rp := runP c_is_whole 1
theorem d_is_whole (F : ∃ fa fd, mg "is_whole" = some (.ref fa) ∧ FunG K "is_whole" s_is_whole fa fd) (B : Bt K mg ct) (T : Xt K mg ct ne) (D : D_is_whole P w K mg base ct) : Dp' P w K mg base 2 "is_whole" ["thing"] (spP K ct 1 f_is_whole) := by
  obtain ⟨fa, fd, hm, F⟩ := F
  have nd := sc_is_whole.nd
  refine ⟨fa, fd, hm, F.kp, F.bindsN (fun _ _ _ _ _ _ us hl => match us, hl with | [_], _ => rfl), def_P (k := 1) F sc_is_whole rfl fun cdv A outer s H E hr => ?_⟩
  have tk := takes_of (X := cxG P w K mg base ["thing"] "is_whole" s_is_whole fa cdv A outer s H E) rfl rfl rfl rfl
  exact (gs_one (gs_ret (ge_and (ge_isi (T := .int) rfl B.isinstance rfl B.int (by decide +kernel) (ge_var (pv 0))) (ge_one (ge_not (ge_isi (T := .bool) rfl B.isinstance rfl B.bool (by decide +kernel) (ge_var (pv 0))))))))
abbrev s_is_among : Stmt := top 9
theorem sc_is_among : FnScope ["thing", "least", "most"] ["thing", "least", "most"] (defScope s_is_among) := ⟨rfl, rfl, rfl, by decide +kernel, rfl, by decide +kernel, by decide +kernel⟩
structure D_is_among (P : Program) (w : World) (K : PySem.W.Frag) (mg : Str → Option Value) (base : Heap) (ct : Ct) : Prop where
  is_whole : Dp' P w K mg base 2 "is_whole" ["thing"] (spP K ct 1 f_is_whole)
  u_ : True
def c_is_among : En → M Fl := sRet (xAnd (xCallP f_is_whole (aCons (xVar 0) (aNil))) (xChain opLe opLe (xVar 1) (xVar 0) (xVar 2)))
def f_is_among : List D → Rp := runP c_is_among 3
theorem d_is_among (F : ∃ fa fd, mg "is_among" = some (.ref fa) ∧ FunG K "is_among" s_is_among fa fd) (B : Bt K mg ct) (T : Xt K mg ct ne) (D : D_is_among P w K mg base ct) : Dp' P w K mg base 3 "is_among" ["thing", "least", "most"] (spP K ct 3 f_is_among) := by
  obtain ⟨fa, fd, hm, F⟩ := F
  have nd := sc_is_among.nd
  refine ⟨fa, fd, hm, F.kp, F.bindsN (fun _ _ _ _ _ _ us hl => match us, hl with | [_, _, _], _ => rfl), def_P (k := 2) F sc_is_among rfl fun cdv A outer s H E hr => ?_⟩
  have tk := takes_of (X := cxG P w K mg base ["thing", "least", "most"] "is_among" s_is_among fa cdv A outer s H E) rfl rfl rfl rfl
  exact (gs_one (gs_ret (ge_and (gc_P D.is_whole hr (by decide) tk rfl (an_cons an_nil) (ga_cons (ge_var (pv 0)) ga_nil)) (ge_one (ge_chain op_le od_le op_le od_le (ge_var (pv 1)) (ge_var (pv 0)) (ge_var (pv 2)))))))
abbrev s_need_lines : Stmt := top 12
theorem sc_need_lines : FnScope ["lines"] ["lines"] (defScope s_need_lines) := ⟨rfl, rfl, rfl, by decide +kernel, rfl, by decide +kernel, by decide +kernel⟩
structure D_need_lines (P : Program) (w : World) (K : PySem.W.Frag) (mg : Str → Option Value) (base : Heap) (ct : Ct) : Prop where
  is_among : Dp' P w K mg base 3 "is_among" ["thing", "least", "most"] (spP K ct 3 f_is_among)
  u_ : True
def c_need_lines : En → M Fl := sIf (bNot (bVal (xCallP f_is_among (aCons (xVar 0) (aCons (xC (.int 1)) (aCons (xC (.int 64)) (aNil))))))) (sRaise .lines) (sSkip)
def f_need_lines : List D → Rp := runP c_need_lines 1
theorem d_need_lines (F : ∃ fa fd, mg "need_lines" = some (.ref fa) ∧ FunG K "need_lines" s_need_lines fa fd) (B : Bt K mg ct) (T : Xt K mg ct ne) (D : D_need_lines P w K mg base ct) : Dp' P w K mg base 4 "need_lines" ["lines"] (spP K ct 1 f_need_lines) := by
  obtain ⟨fa, fd, hm, F⟩ := F
  have nd := sc_need_lines.nd
  refine ⟨fa, fd, hm, F.kp, F.bindsN (fun _ _ _ _ _ _ us hl => match us, hl with | [_], _ => rfl), def_P (k := 3) F sc_need_lines rfl fun cdv A outer s H E hr => ?_⟩
  have tk := takes_of (X := cxG P w K mg base ["lines"] "need_lines" s_need_lines fa cdv A outer s H E) rfl rfl rfl rfl
  exact (gs_one (gs_if (gt_not (gt_val (gc_P D.is_among hr (by decide) tk rfl (an_cons (an_cons (an_cons an_nil))) (ga_cons (ge_var (pv 0)) (ga_cons ge_int (ga_cons (ge_gint B.c_MOST_LINES rfl) ga_nil)))))) (gs_one (gs_raise4 .lines rfl tk B.x_lines.exc B.x_lines.mg B.x_lines.keep (B.x_lines.raises) rfl)) gs_nil))
abbrev s_moved_up : Stmt := top 14
theorem sc_moved_up : FnScope ["net", "by", "layer", "low", "high"] ["net", "by"] (defScope s_moved_up) := ⟨rfl, rfl, rfl, by decide +kernel, rfl, by decide +kernel, by decide +kernel⟩
structure D_moved_up (P : Program) (w : World) (K : PySem.W.Frag) (mg : Str → Option Value) (base : Heap) (ct : Ct) : Prop where
  u_ : True
def c_moved_up : En → M Fl := sRet (xLcN false (itSeq (xVar 0)) [2] (.nm 2) (bYes) (xLcN false (itSeq (xVar 2)) [3, 4] (.tp [3, 4]) (bYes) (xTup (aCons (xBin (opAdd false) (xVar 3) (xVar 1)) (aCons (xBin (opAdd false) (xVar 4) (xVar 1)) (aNil))))))
def f_moved_up : List D → Rp := runP c_moved_up 5
theorem d_moved_up (F : ∃ fa fd, mg "moved_up" = some (.ref fa) ∧ FunG K "moved_up" s_moved_up fa fd) (B : Bt K mg ct) (T : Xt K mg ct ne) (D : D_moved_up P w K mg base ct) : Dp' P w K mg base 2 "moved_up" ["net", "by"] (spP K ct 2 f_moved_up) := by
  obtain ⟨fa, fd, hm, F⟩ := F
  have nd := sc_moved_up.nd
  refine ⟨fa, fd, hm, F.kp, F.bindsN (fun _ _ _ _ _ _ us hl => match us, hl with | [_, _], _ => rfl), def_P (k := 1) F sc_moved_up rfl fun cdv A outer s H E hr => ?_⟩
  have tk := takes_of (X := cxG P w K mg base ["net", "by", "layer", "low", "high"] "moved_up" s_moved_up fa cdv A outer s H E) rfl rfl rfl rfl
  exact (gs_one (gs_ret (ge_lc false rfl nd (own := [("layer", 2)]) (t := .nm 2) (gi_seq (ge_var (pv 0))) (blkOk_by (own := [("layer", 2)]) (by kernel_rfl)) (by decide) (fun _ _ _ _ _ => (pg_name (i := 2) nd rfl (by first | exact .inl rfl | exact .inr rfl))) (fun _ _ _ _ _ => gts_nil) (fun _ _ _ _ _ => (ge_lc false rfl nd (own := [("low", 3), ("high", 4)]) (t := .tp [3, 4]) (gi_seq (ge_var (pv 2))) (blkOk_by (own := [("low", 3), ("high", 4)]) (by kernel_rfl)) (by decide) (fun _ _ _ _ _ => (pg_tup rfl (pgs_cons (pg_name (i := 3) nd rfl (by first | exact .inl rfl | exact .inr rfl)) (pgs_cons (pg_name (i := 4) nd rfl (by first | exact .inl rfl | exact .inr rfl)) pgs_nil)))) (fun _ _ _ _ _ => gts_nil) (fun _ _ _ _ _ => (ge_tup (ga_cons (ge_op op_addA (od_add false) (ge_var (pv 3)) (ge_var (pv 1))) (ga_cons (ge_op op_addA (od_add false) (ge_var (pv 4)) (ge_var (pv 1))) ga_nil)))))))))
abbrev s_side_by_side : Stmt := top 15
theorem sc_side_by_side : FnScope ["one", "other", "found", "at", "layer", "net"] ["one", "other"] (defScope s_side_by_side) := ⟨rfl, rfl, rfl, by decide +kernel, rfl, by decide +kernel, by decide +kernel⟩
structure D_side_by_side (P : Program) (w : World) (K : PySem.W.Frag) (mg : Str → Option Value) (base : Heap) (ct : Ct) : Prop where
  u_ : True
def c_side_by_side : En → M Fl := sSeq (sAsg (xLst true (aNil)) (.nm 2)) (sSeq (sFor (itR1 (xCall opMax2 (aCons (xCall opLen (aCons (xVar 0) (aNil))) (aCons (xCall opLen (aCons (xVar 1) (aNil))) (aNil))))) (.nm 3) (sSeq (sAsg (xLst true (aNil)) (.nm 4)) (sSeq (sFor (itTup (xTup (aCons (xVar 0) (aCons (xVar 1) (aNil))))) (.nm 5) (sIf (bVal (xBin opLt (xVar 3) (xCall opLen (aCons (xVar 5) (aNil))))) (sAsg (xBin (opAdd true) (xVar 4) (xBin opIx (xVar 5) (xVar 3))) (.nm 4)) (sSkip))) (sDrop (xApp (xVar 2) (xVar 4)))))) (sRet (xVar 2)))
def f_side_by_side : List D → Rp2 := runO2 c_side_by_side 6
theorem d_side_by_side (F : ∃ fa fd, mg "side_by_side" = some (.ref fa) ∧ FunG K "side_by_side" s_side_by_side fa fd) (B : Bt K mg ct) (T : Xt K mg ct ne) (D : D_side_by_side P w K mg base ct) : Dp' P w K mg base 2 "side_by_side" ["one", "other"] (spO2 K ct 2 f_side_by_side) := by
  obtain ⟨fa, fd, hm, F⟩ := F
  have nd := sc_side_by_side.nd
  refine ⟨fa, fd, hm, F.kp, F.bindsN (fun _ _ _ _ _ _ us hl => match us, hl with | [_, _], _ => rfl), def_O2 (k := 1) F sc_side_by_side rfl fun cdv A outer s H E hr => ?_⟩
  have tk := takes_of (X := cxG P w K mg base ["one", "other", "found", "at", "layer", "net"] "side_by_side" s_side_by_side fa cdv A outer s H E) rfl rfl rfl rfl
  have hp : PassesOwn (model P w) _ _ (cxG P w K mg base ["one", "other", "found", "at", "layer", "net"] "side_by_side" s_side_by_side fa cdv A outer s H E).xe := passes_of rfl
  exact (gs_cons (gs_asg (t := .nm 2) (ps_set nd rfl (by first | exact .inl rfl | exact .inr rfl) (ge_lst true ga_nil))) (gs_cons (gs_for (t := .nm 3) hp rfl (gi_r1 rfl B.range (ge_callB (call_max2 rfl) cd_max2 rfl B.max (by decide +kernel) (ga_cons (ge_callB call_len cd_len rfl B.len PySem.boot_len (ga_cons (ge_var (pv 0)) ga_nil)) (ga_cons (ge_callB call_len cd_len rfl B.len PySem.boot_len (ga_cons (ge_var (pv 1)) ga_nil)) ga_nil)))) (pg_name (i := 3) nd rfl (by first | exact .inl rfl | exact .inr rfl)) (gs_cons (gs_asg (t := .nm 4) (ps_set nd rfl (by first | exact .inl rfl | exact .inr rfl) (ge_lst true ga_nil))) (gs_cons (gs_for (t := .nm 5) hp rfl (gi_tup (ge_tup (ga_cons (ge_var (pv 0)) (ga_cons (ge_var (pv 1)) ga_nil)))) (pg_name (i := 5) nd rfl (by first | exact .inl rfl | exact .inr rfl)) (gs_one (gs_if (gt_cmp op_lt od_lt (ge_var (pv 3)) (ge_callB call_len cd_len rfl B.len PySem.boot_len (ga_cons (ge_var (pv 5)) ga_nil)) (nomark _)) (gs_one (gs_asg (t := .nm 4) (ps_set nd rfl (by first | exact .inl rfl | exact .inr rfl) (ge_op op_addA (od_add true) (ge_var (pv 4)) (ge_ix ix_seq od_ix (ge_var (pv 5)) (ge_var (pv 3)) (fun _ _ => rfl)))))) gs_nil))) (gs_one (gs_drop (ge_app (ge_var (pv 2)) (ge_var (pv 4)))))))) (gs_one (gs_ret (ge_var (pv 2))))))
abbrev s_put_behind : Stmt := top 16
theorem sc_put_behind : FnScope ["one", "first", "other", "many", "last", "line"] ["one", "first", "other", "many"] (defScope s_put_behind) := ⟨rfl, rfl, rfl, by decide +kernel, rfl, by decide +kernel, by decide +kernel⟩
structure D_put_behind (P : Program) (w : World) (K : PySem.W.Frag) (mg : Str → Option Value) (base : Heap) (ct : Ct) : Prop where
  moved_up : Dp' P w K mg base 2 "moved_up" ["net", "by"] (spP K ct 2 f_moved_up)
  side_by_side : Dp' P w K mg base 2 "side_by_side" ["one", "other"] (spO2 K ct 2 f_side_by_side)
  u_ : True
def c_put_behind : En → M Fl := sSeq (sAsg (xLcN true (itR1 (xVar 3)) [5] (.nm 5) (bYes) (xTup (aCons (xBin opSub (xVar 1) (xC (.int 1))) (aCons (xBin (opAdd false) (xVar 1) (xVar 5)) (aNil))))) (.nm 4)) (sRet (xBin (opAdd true) (xCallO2 f_side_by_side (aCons (xVar 0) (aCons (xCallP f_moved_up (aCons (xVar 2) (aCons (xVar 1) (aNil)))) (aNil)))) (xLst false (aCons (xVar 4) (aNil)))))
def f_put_behind : List D → Rp2 := runO2 c_put_behind 6
theorem d_put_behind (F : ∃ fa fd, mg "put_behind" = some (.ref fa) ∧ FunG K "put_behind" s_put_behind fa fd) (B : Bt K mg ct) (T : Xt K mg ct ne) (D : D_put_behind P w K mg base ct) : Dp' P w K mg base 3 "put_behind" ["one", "first", "other", "many"] (spO2 K ct 4 f_put_behind) := by
  obtain ⟨fa, fd, hm, F⟩ := F
  have nd := sc_put_behind.nd
  refine ⟨fa, fd, hm, F.kp, F.bindsN (fun _ _ _ _ _ _ us hl => match us, hl with | [_, _, _, _], _ => rfl), def_O2 (k := 2) F sc_put_behind rfl fun cdv A outer s H E hr => ?_⟩
  have tk := takes_of (X := cxG P w K mg base ["one", "first", "other", "many", "last", "line"] "put_behind" s_put_behind fa cdv A outer s H E) rfl rfl rfl rfl
  exact (gs_cons (gs_lc (own := [("line", 5)]) (t := .nm 5) (i := 4) (c := true) (by decide) (ps_setLc rfl nd rfl rfl (sw_true rfl rfl rfl (by decide +kernel)) (own := [("line", 5)]) (gi_r1 rfl B.range (ge_var (pv 3))) (blkOk_by (own := [("line", 5)]) (by kernel_rfl)) (fun _ _ _ _ _ => (pg_name (i := 5) nd rfl (by first | exact .inl rfl | exact .inr rfl))) (fun _ _ _ _ _ => gts_nil) (fun _ _ _ _ _ => (ge_tup (ga_cons (ge_op op_sub od_sub (ge_var (pv 1)) ge_int) (ga_cons (ge_op op_addA (od_add false) (ge_var (pv 1)) (ge_var (pv 5))) ga_nil)))))) (gs_one (gs_ret (ge_op op_addA (od_add true) (gc_O2 D.side_by_side hr (by decide) tk rfl (an_cons (an_cons an_nil)) (ga_cons (ge_var (pv 0)) (ga_cons (gc_P D.moved_up hr (by decide) tk rfl (an_cons (an_cons an_nil)) (ga_cons (ge_var (pv 2)) (ga_cons (ge_var (pv 1)) ga_nil))) ga_nil))) (ge_lst false (ga_cons (ge_var (pv 4)) ga_nil))))))
abbrev s_pairs_around : Stmt := top 17
theorem sc_pairs_around : FnScope ["lines", "net", "first", "inner", "last", "line", "layer", "low", "high"] ["lines", "net"] (defScope s_pairs_around) := ⟨rfl, rfl, rfl, by decide +kernel, rfl, by decide +kernel, by decide +kernel⟩
structure D_pairs_around (P : Program) (w : World) (K : PySem.W.Frag) (mg : Str → Option Value) (base : Heap) (ct : Ct) : Prop where
  u_ : True
def c_pairs_around : En → M Fl := sSeq (sAsg (xLcN true (itR3 (xC (.int 0)) (xBin opSub (xVar 0) (xC (.int 1))) (xC (.int 2))) [5] (.nm 5) (bYes) (xTup (aCons (xVar 5) (aCons (xBin (opAdd false) (xVar 5) (xC (.int 1))) (aNil))))) (.nm 2)) (sSeq (sAsg (xLcN false (itSeq (xVar 1)) [6] (.nm 6) (bYes) (xLcN true (itSeq (xVar 6)) [7, 8] (.tp [7, 8]) (bYes) (xTup (aCons (xBin (opAdd false) (xBin (opMul false) (xC (.int 2)) (xVar 7)) (xC (.int 1))) (aCons (xBin (opAdd false) (xBin (opMul false) (xC (.int 2)) (xVar 8)) (xC (.int 1))) (aNil)))))) (.nm 3)) (sSeq (sAsg (xLcN true (itR3 (xC (.int 1)) (xBin opSub (xVar 0) (xC (.int 1))) (xC (.int 2))) [5] (.nm 5) (bYes) (xTup (aCons (xVar 5) (aCons (xBin (opAdd false) (xVar 5) (xC (.int 1))) (aNil))))) (.nm 4)) (sSeq (sIf (bVal (xBin (opEq true) (xVar 4) (xLst false (aNil)))) (sRet (xBin (opAdd true) (xLst false (aCons (xVar 2) (aNil))) (xVar 3))) (sSkip)) (sRet (xBin (opAdd true) (xBin (opAdd false) (xLst false (aCons (xVar 2) (aNil))) (xVar 3)) (xLst false (aCons (xVar 4) (aNil))))))))
def f_pairs_around : List D → Rp2 := runO2 c_pairs_around 9
theorem d_pairs_around (F : ∃ fa fd, mg "pairs_around" = some (.ref fa) ∧ FunG K "pairs_around" s_pairs_around fa fd) (B : Bt K mg ct) (T : Xt K mg ct ne) (D : D_pairs_around P w K mg base ct) : Dp' P w K mg base 2 "pairs_around" ["lines", "net"] (spO2 K ct 2 f_pairs_around) := by
  obtain ⟨fa, fd, hm, F⟩ := F
  have nd := sc_pairs_around.nd
  refine ⟨fa, fd, hm, F.kp, F.bindsN (fun _ _ _ _ _ _ us hl => match us, hl with | [_, _], _ => rfl), def_O2 (k := 1) F sc_pairs_around rfl fun cdv A outer s H E hr => ?_⟩
  have tk := takes_of (X := cxG P w K mg base ["lines", "net", "first", "inner", "last", "line", "layer", "low", "high"] "pairs_around" s_pairs_around fa cdv A outer s H E) rfl rfl rfl rfl
  exact (gs_cons (gs_lc (own := [("line", 5)]) (t := .nm 5) (i := 2) (c := true) (by decide) (ps_setLc rfl nd rfl rfl (sw_true rfl rfl rfl (by decide +kernel)) (own := [("line", 5)]) (gi_r3 rfl B.range ge_int (ge_op op_sub od_sub (ge_var (pv 0)) ge_int) ge_int) (blkOk_by (own := [("line", 5)]) (by kernel_rfl)) (fun _ _ _ _ _ => (pg_name (i := 5) nd rfl (by first | exact .inl rfl | exact .inr rfl))) (fun _ _ _ _ _ => gts_nil) (fun _ _ _ _ _ => (ge_tup (ga_cons (ge_var (pv 5)) (ga_cons (ge_op op_addA (od_add false) (ge_var (pv 5)) ge_int) ga_nil)))))) (gs_cons (gs_lc (own := [("layer", 6)]) (t := .nm 6) (i := 3) (c := false) (by decide) (ps_setLc rfl nd rfl rfl (sw_true rfl rfl rfl (by decide +kernel)) (own := [("layer", 6)]) (gi_seq (ge_var (pv 1))) (blkOk_by (own := [("layer", 6)]) (by kernel_rfl)) (fun _ _ _ _ _ => (pg_name (i := 6) nd rfl (by first | exact .inl rfl | exact .inr rfl))) (fun _ _ _ _ _ => gts_nil) (fun _ _ _ _ _ => (ge_lc true rfl nd (own := [("low", 7), ("high", 8)]) (t := .tp [7, 8]) (gi_seq (ge_var (pv 6))) (blkOk_by (own := [("low", 7), ("high", 8)]) (by kernel_rfl)) (by decide) (fun _ _ _ _ _ => (pg_tup rfl (pgs_cons (pg_name (i := 7) nd rfl (by first | exact .inl rfl | exact .inr rfl)) (pgs_cons (pg_name (i := 8) nd rfl (by first | exact .inl rfl | exact .inr rfl)) pgs_nil)))) (fun _ _ _ _ _ => gts_nil) (fun _ _ _ _ _ => (ge_tup (ga_cons (ge_op op_addA (od_add false) (ge_op op_mulA (od_mul false) ge_int (ge_var (pv 7))) ge_int) (ga_cons (ge_op op_addA (od_add false) (ge_op op_mulA (od_mul false) ge_int (ge_var (pv 8))) ge_int) ga_nil)))))))) (gs_cons (gs_lc (own := [("line", 5)]) (t := .nm 5) (i := 4) (c := true) (by decide) (ps_setLc rfl nd rfl rfl (sw_true rfl rfl rfl (by decide +kernel)) (own := [("line", 5)]) (gi_r3 rfl B.range ge_int (ge_op op_sub od_sub (ge_var (pv 0)) ge_int) ge_int) (blkOk_by (own := [("line", 5)]) (by kernel_rfl)) (fun _ _ _ _ _ => (pg_name (i := 5) nd rfl (by first | exact .inl rfl | exact .inr rfl))) (fun _ _ _ _ _ => gts_nil) (fun _ _ _ _ _ => (ge_tup (ga_cons (ge_var (pv 5)) (ga_cons (ge_op op_addA (od_add false) (ge_var (pv 5)) ge_int) ga_nil)))))) (gs_cons (gs_if (gt_cmp (op_eqD hr.units) od_eq (ge_var (pv 4)) (ge_lst false ga_nil) (nomark _)) (gs_one (gs_ret (ge_op op_addA (od_add true) (ge_lst false (ga_cons (ge_var (pv 2)) ga_nil)) (ge_var (pv 3))))) gs_nil) (gs_one (gs_ret (ge_op op_addA (od_add true) (ge_op op_addA (od_add false) (ge_lst false (ga_cons (ge_var (pv 2)) ga_nil)) (ge_var (pv 3))) (ge_lst false (ga_cons (ge_var (pv 4)) ga_nil)))))))))
abbrev s_one_by_one : Stmt := top 18
theorem sc_one_by_one : FnScope ["lines", "line"] ["lines"] (defScope s_one_by_one) := ⟨rfl, rfl, rfl, by decide +kernel, rfl, by decide +kernel, by decide +kernel⟩
structure D_one_by_one (P : Program) (w : World) (K : PySem.W.Frag) (mg : Str → Option Value) (base : Heap) (ct : Ct) : Prop where
  need_lines : Dp' P w K mg base 4 "need_lines" ["lines"] (spP K ct 1 f_need_lines)
  u_ : True
def c_one_by_one : En → M Fl := sSeq (sDrop (xCallP f_need_lines (aCons (xVar 0) (aNil)))) (sRet (xLcN true (itR1 (xBin opSub (xVar 0) (xC (.int 1)))) [1] (.nm 1) (bYes) (xLst true (aCons (xTup (aCons (xVar 1) (aCons (xBin (opAdd false) (xVar 1) (xC (.int 1))) (aNil)))) (aNil)))))
def f_one_by_one : List D → Rp2 := runO2 c_one_by_one 2
theorem d_one_by_one (F : ∃ fa fd, mg "one_by_one" = some (.ref fa) ∧ FunG K "one_by_one" s_one_by_one fa fd) (B : Bt K mg ct) (T : Xt K mg ct ne) (D : D_one_by_one P w K mg base ct) : Dp' P w K mg base 5 "one_by_one" ["lines"] (spO2 K ct 1 f_one_by_one) := by
  obtain ⟨fa, fd, hm, F⟩ := F
  have nd := sc_one_by_one.nd
  refine ⟨fa, fd, hm, F.kp, F.bindsN (fun _ _ _ _ _ _ us hl => match us, hl with | [_], _ => rfl), def_O2 (k := 4) F sc_one_by_one rfl fun cdv A outer s H E hr => ?_⟩
  have tk := takes_of (X := cxG P w K mg base ["lines", "line"] "one_by_one" s_one_by_one fa cdv A outer s H E) rfl rfl rfl rfl
  exact (gs_cons (gs_drop (gc_P D.need_lines hr (by decide) tk rfl (an_cons an_nil) (ga_cons (ge_var (pv 0)) ga_nil))) (gs_one (gs_ret (ge_lc true rfl nd (own := [("line", 1)]) (t := .nm 1) (gi_r1 rfl B.range (ge_op op_sub od_sub (ge_var (pv 0)) ge_int)) (blkOk_by (own := [("line", 1)]) (by kernel_rfl)) (by decide) (fun _ _ _ _ _ => (pg_name (i := 1) nd rfl (by first | exact .inl rfl | exact .inr rfl))) (fun _ _ _ _ _ => gts_nil) (fun _ _ _ _ _ => (ge_lst true (ga_cons (ge_tup (ga_cons (ge_var (pv 1)) (ga_cons (ge_op op_addA (od_add false) (ge_var (pv 1)) ge_int) ga_nil))) ga_nil)))))))
abbrev s_doubled : Stmt := top 19
theorem sc_doubled : FnScope ["lines", "found", "far", "line"] ["lines"] (defScope s_doubled) := ⟨rfl, rfl, rfl, by decide +kernel, rfl, by decide +kernel, by decide +kernel⟩
structure D_doubled (P : Program) (w : World) (K : PySem.W.Frag) (mg : Str → Option Value) (base : Heap) (ct : Ct) : Prop where
  need_lines : Dp' P w K mg base 4 "need_lines" ["lines"] (spP K ct 1 f_need_lines)
  u_ : True
def c_doubled : En → M Fl := sSeq (sDrop (xCallP f_need_lines (aCons (xVar 0) (aNil)))) (sSeq (sAsg (xLst true (aNil)) (.nm 1)) (sSeq (sAsg (xC (.int 1)) (.nm 2)) (sSeq (sWhile (bVal (xBin opLt (xVar 2) (xVar 0))) (sSeq (sDrop (xApp (xVar 1) (xLcN true (itR2 (xVar 2) (xVar 0)) [3] (.nm 3) (bYes) (xTup (aCons (xBin opSub (xVar 3) (xVar 2)) (aCons (xVar 3) (aNil))))))) (sAsg (xBin (opMul false) (xC (.int 2)) (xVar 2)) (.nm 2))) 8) (sRet (xVar 1)))))
def f_doubled : List D → Rp2 := runO2 c_doubled 4
theorem d_doubled (F : ∃ fa fd, mg "doubled" = some (.ref fa) ∧ FunG K "doubled" s_doubled fa fd) (B : Bt K mg ct) (T : Xt K mg ct ne) (D : D_doubled P w K mg base ct) : Dp' P w K mg base 5 "doubled" ["lines"] (spO2 K ct 1 f_doubled) := by
  obtain ⟨fa, fd, hm, F⟩ := F
  have nd := sc_doubled.nd
  refine ⟨fa, fd, hm, F.kp, F.bindsN (fun _ _ _ _ _ _ us hl => match us, hl with | [_], _ => rfl), def_O2 (k := 4) F sc_doubled rfl fun cdv A outer s H E hr => ?_⟩
  have tk := takes_of (X := cxG P w K mg base ["lines", "found", "far", "line"] "doubled" s_doubled fa cdv A outer s H E) rfl rfl rfl rfl
  have hp : PassesOwn (model P w) _ _ (cxG P w K mg base ["lines", "found", "far", "line"] "doubled" s_doubled fa cdv A outer s H E).xe := passes_of rfl
  exact (gs_cons (gs_drop (gc_P D.need_lines hr (by decide) tk rfl (an_cons an_nil) (ga_cons (ge_var (pv 0)) ga_nil))) (gs_cons (gs_asg (t := .nm 1) (ps_set nd rfl (by first | exact .inl rfl | exact .inr rfl) (ge_lst true ga_nil))) (gs_cons (gs_asg (t := .nm 2) (ps_set nd rfl (by first | exact .inl rfl | exact .inr rfl) ge_int)) (gs_cons (gs_while 8 hp (gt_cmp op_lt od_lt (ge_var (pv 2)) (ge_var (pv 0)) (nomark _)) (gs_cons (gs_drop (ge_app (ge_var (pv 1)) (ge_lc true rfl nd (own := [("line", 3)]) (t := .nm 3) (gi_r2 rfl B.range (ge_var (pv 2)) (ge_var (pv 0))) (blkOk_by (own := [("line", 3)]) (by kernel_rfl)) (by decide) (fun _ _ _ _ _ => (pg_name (i := 3) nd rfl (by first | exact .inl rfl | exact .inr rfl))) (fun _ _ _ _ _ => gts_nil) (fun _ _ _ _ _ => (ge_tup (ga_cons (ge_op op_sub od_sub (ge_var (pv 3)) (ge_var (pv 2))) (ga_cons (ge_var (pv 3)) ga_nil))))))) (gs_one (gs_asg (t := .nm 2) (ps_set nd rfl (by first | exact .inl rfl | exact .inr rfl) (ge_op op_mulA (od_mul false) ge_int (ge_var (pv 2)))))))) (gs_one (gs_ret (ge_var (pv 1))))))))
abbrev s_halves_net : Stmt := top 20
theorem sc_halves_net : FnScope ["lines", "first"] ["lines"] (defScope s_halves_net) := ⟨rfl, rfl, rfl, by decide +kernel, rfl, by decide +kernel, by decide +kernel⟩
structure D_halves_net (P : Program) (w : World) (K : PySem.W.Frag) (mg : Str → Option Value) (base : Heap) (ct : Ct) : Prop where
  put_behind : Dp' P w K mg base 3 "put_behind" ["one", "first", "other", "many"] (spO2 K ct 4 f_put_behind)
  u_ : True
def c_halves_net (r : List D → Rp2) : En → M Fl := sSeq (sIf (bVal (xBin (opEq true) (xVar 0) (xC (.int 1)))) (sRet (xLst true (aNil))) (sSkip)) (sSeq (sAsg (xBin opSub (xVar 0) (xBin opDiv (xVar 0) (xC (.int 2)))) (.nm 1)) (sRet (xCallO2 f_put_behind (aCons (xCallP (asP r) (aCons (xVar 1) (aNil))) (aCons (xVar 1) (aCons (xCallP (asP r) (aCons (xBin opSub (xVar 0) (xVar 1)) (aNil))) (aCons (xBin opSub (xVar 0) (xVar 1)) (aNil))))))))
def g_halves_net : Nat → List D → Rp2
  | 0 => fun _ => .no
  | n + 1 => runO2 (c_halves_net (g_halves_net n)) 2
def f_halves_net : List D → Rp2 := g_halves_net 8
theorem d_halves_net (F : ∃ fa fd, mg "halves_net" = some (.ref fa) ∧ FunG K "halves_net" s_halves_net fa fd) (B : Bt K mg ct) (T : Xt K mg ct ne) (D : D_halves_net P w K mg base ct) : Dp' P w K mg base 12 "halves_net" ["lines"] (spO2 K ct 1 f_halves_net) := by
  obtain ⟨fa, fd, hm, F⟩ := F
  have nd := sc_halves_net.nd
  have all : ∀ m, Dp' P w K mg base (4 + m) "halves_net" ["lines"] (spO2 K ct 1 (g_halves_net m)) := fun m => by
    induction m with
    | zero => exact ⟨fa, fd, hm, F.kp, F.bindsN (fun _ _ _ _ _ _ us hl => match us, hl with | [_], _ => rfl), fn_no2 rfl⟩
    | succ m IH =>
      refine ⟨fa, fd, hm, F.kp, F.bindsN (fun _ _ _ _ _ _ us hl => match us, hl with | [_], _ => rfl), def_O2 (k := 4 + m) F sc_halves_net rfl fun cdv A outer s H E hr => ?_⟩
      have tk := takes_of (X := cxG P w K mg base ["lines", "first"] "halves_net" s_halves_net fa cdv A outer s H E) rfl rfl rfl rfl
      exact (gs_cons (gs_if (gt_cmp (op_eqD hr.units) od_eq (ge_var (pv 0)) ge_int (nomark _)) (gs_one (gs_ret (ge_lst true ga_nil))) gs_nil) (gs_cons (gs_asg (t := .nm 1) (ps_set nd rfl (by first | exact .inl rfl | exact .inr rfl) (ge_op op_sub od_sub (ge_var (pv 0)) (ge_op op_fdiv od_div (ge_var (pv 0)) ge_int)))) (gs_one (gs_ret (gc_O2 D.put_behind hr (by omega) tk rfl (an_cons (an_cons (an_cons (an_cons an_nil)))) (ga_cons (gc_P (Dp'.ofO2 IH) hr (by omega) tk rfl (an_cons an_nil) (ga_cons (ge_var (pv 1)) ga_nil)) (ga_cons (ge_var (pv 1)) (ga_cons (gc_P (Dp'.ofO2 IH) hr (by omega) tk rfl (an_cons an_nil) (ga_cons (ge_op op_sub od_sub (ge_var (pv 0)) (ge_var (pv 1))) ga_nil)) (ga_cons (ge_op op_sub od_sub (ge_var (pv 0)) (ge_var (pv 1))) ga_nil)))))))))
  exact all 8
abbrev s_by_halves : Stmt := top 21
theorem sc_by_halves : FnScope ["lines"] ["lines"] (defScope s_by_halves) := ⟨rfl, rfl, rfl, by decide +kernel, rfl, by decide +kernel, by decide +kernel⟩
structure D_by_halves (P : Program) (w : World) (K : PySem.W.Frag) (mg : Str → Option Value) (base : Heap) (ct : Ct) : Prop where
  need_lines : Dp' P w K mg base 4 "need_lines" ["lines"] (spP K ct 1 f_need_lines)
  halves_net : Dp' P w K mg base 12 "halves_net" ["lines"] (spO2 K ct 1 f_halves_net)
  u_ : True
def c_by_halves : En → M Fl := sSeq (sDrop (xCallP f_need_lines (aCons (xVar 0) (aNil)))) (sRet (xCallO2 f_halves_net (aCons (xVar 0) (aNil))))
def f_by_halves : List D → Rp2 := runO2 c_by_halves 1
theorem d_by_halves (F : ∃ fa fd, mg "by_halves" = some (.ref fa) ∧ FunG K "by_halves" s_by_halves fa fd) (B : Bt K mg ct) (T : Xt K mg ct ne) (D : D_by_halves P w K mg base ct) : Dp' P w K mg base 13 "by_halves" ["lines"] (spO2 K ct 1 f_by_halves) := by
  obtain ⟨fa, fd, hm, F⟩ := F
  have nd := sc_by_halves.nd
  refine ⟨fa, fd, hm, F.kp, F.bindsN (fun _ _ _ _ _ _ us hl => match us, hl with | [_], _ => rfl), def_O2 (k := 12) F sc_by_halves rfl fun cdv A outer s H E hr => ?_⟩
  have tk := takes_of (X := cxG P w K mg base ["lines"] "by_halves" s_by_halves fa cdv A outer s H E) rfl rfl rfl rfl
  exact (gs_cons (gs_drop (gc_P D.need_lines hr (by decide) tk rfl (an_cons an_nil) (ga_cons (ge_var (pv 0)) ga_nil))) (gs_one (gs_ret (gc_O2 D.halves_net hr (by decide) tk rfl (an_cons an_nil) (ga_cons (ge_var (pv 0)) ga_nil)))))
abbrev s_pairs_net : Stmt := top 22
theorem sc_pairs_net : FnScope ["lines"] ["lines"] (defScope s_pairs_net) := ⟨rfl, rfl, rfl, by decide +kernel, rfl, by decide +kernel, by decide +kernel⟩
structure D_pairs_net (P : Program) (w : World) (K : PySem.W.Frag) (mg : Str → Option Value) (base : Heap) (ct : Ct) : Prop where
  pairs_around : Dp' P w K mg base 2 "pairs_around" ["lines", "net"] (spO2 K ct 2 f_pairs_around)
  u_ : True
def c_pairs_net (r : List D → Rp2) : En → M Fl := sSeq (sIf (bVal (xBin (opEq true) (xVar 0) (xC (.int 1)))) (sRet (xLst true (aNil))) (sSkip)) (sRet (xCallO2 f_pairs_around (aCons (xVar 0) (aCons (xCallP (asP r) (aCons (xBin opDiv (xVar 0) (xC (.int 2))) (aNil))) (aNil)))))
def g_pairs_net : Nat → List D → Rp2
  | 0 => fun _ => .no
  | n + 1 => runO2 (c_pairs_net (g_pairs_net n)) 1
def f_pairs_net : List D → Rp2 := g_pairs_net 8
theorem d_pairs_net (F : ∃ fa fd, mg "pairs_net" = some (.ref fa) ∧ FunG K "pairs_net" s_pairs_net fa fd) (B : Bt K mg ct) (T : Xt K mg ct ne) (D : D_pairs_net P w K mg base ct) : Dp' P w K mg base 11 "pairs_net" ["lines"] (spO2 K ct 1 f_pairs_net) := by
  obtain ⟨fa, fd, hm, F⟩ := F
  have nd := sc_pairs_net.nd
  have all : ∀ m, Dp' P w K mg base (3 + m) "pairs_net" ["lines"] (spO2 K ct 1 (g_pairs_net m)) := fun m => by
    induction m with
    | zero => exact ⟨fa, fd, hm, F.kp, F.bindsN (fun _ _ _ _ _ _ us hl => match us, hl with | [_], _ => rfl), fn_no2 rfl⟩
    | succ m IH =>
      refine ⟨fa, fd, hm, F.kp, F.bindsN (fun _ _ _ _ _ _ us hl => match us, hl with | [_], _ => rfl), def_O2 (k := 3 + m) F sc_pairs_net rfl fun cdv A outer s H E hr => ?_⟩
      have tk := takes_of (X := cxG P w K mg base ["lines"] "pairs_net" s_pairs_net fa cdv A outer s H E) rfl rfl rfl rfl
      exact (gs_cons (gs_if (gt_cmp (op_eqD hr.units) od_eq (ge_var (pv 0)) ge_int (nomark _)) (gs_one (gs_ret (ge_lst true ga_nil))) gs_nil) (gs_one (gs_ret (gc_O2 D.pairs_around hr (by omega) tk rfl (an_cons (an_cons an_nil)) (ga_cons (ge_var (pv 0)) (ga_cons (gc_P (Dp'.ofO2 IH) hr (by omega) tk rfl (an_cons an_nil) (ga_cons (ge_op op_fdiv od_div (ge_var (pv 0)) ge_int) ga_nil)) ga_nil))))))
  exact all 8
abbrev s_by_pairs : Stmt := top 23
theorem sc_by_pairs : FnScope ["lines"] ["lines"] (defScope s_by_pairs) := ⟨rfl, rfl, rfl, by decide +kernel, rfl, by decide +kernel, by decide +kernel⟩
structure D_by_pairs (P : Program) (w : World) (K : PySem.W.Frag) (mg : Str → Option Value) (base : Heap) (ct : Ct) : Prop where
  need_lines : Dp' P w K mg base 4 "need_lines" ["lines"] (spP K ct 1 f_need_lines)
  pairs_net : Dp' P w K mg base 11 "pairs_net" ["lines"] (spO2 K ct 1 f_pairs_net)
  u_ : True
def c_by_pairs : En → M Fl := sSeq (sDrop (xCallP f_need_lines (aCons (xVar 0) (aNil)))) (sRet (xCallO2 f_pairs_net (aCons (xVar 0) (aNil))))
def f_by_pairs : List D → Rp2 := runO2 c_by_pairs 1
theorem d_by_pairs (F : ∃ fa fd, mg "by_pairs" = some (.ref fa) ∧ FunG K "by_pairs" s_by_pairs fa fd) (B : Bt K mg ct) (T : Xt K mg ct ne) (D : D_by_pairs P w K mg base ct) : Dp' P w K mg base 12 "by_pairs" ["lines"] (spO2 K ct 1 f_by_pairs) := by
  obtain ⟨fa, fd, hm, F⟩ := F
  have nd := sc_by_pairs.nd
  refine ⟨fa, fd, hm, F.kp, F.bindsN (fun _ _ _ _ _ _ us hl => match us, hl with | [_], _ => rfl), def_O2 (k := 11) F sc_by_pairs rfl fun cdv A outer s H E hr => ?_⟩
  have tk := takes_of (X := cxG P w K mg base ["lines"] "by_pairs" s_by_pairs fa cdv A outer s H E) rfl rfl rfl rfl
  exact (gs_cons (gs_drop (gc_P D.need_lines hr (by decide) tk rfl (an_cons an_nil) (ga_cons (ge_var (pv 0)) ga_nil))) (gs_one (gs_ret (gc_O2 D.pairs_net hr (by decide) tk rfl (an_cons an_nil) (ga_cons (ge_var (pv 0)) ga_nil)))))
abbrev s__law_cell_at : Stmt := top 25
theorem sc__law_cell_at : FnScope ["_law_script", "_law_k"] ["_law_script", "_law_k"] (defScope s__law_cell_at) := ⟨rfl, rfl, rfl, by decide +kernel, rfl, by decide +kernel, by decide +kernel⟩
structure D__law_cell_at (P : Program) (w : World) (K : PySem.W.Frag) (mg : Str → Option Value) (base : Heap) (ct : Ct) : Prop where
  u_ : True
def c__law_cell_at : En → M Fl := sSeq (sIf (bVal (xBin opLt (xVar 1) (xCall opLen (aCons (xVar 0) (aNil))))) (sRet (xBin opIx (xVar 0) (xVar 1))) (sSkip)) (sRet (xC (.int 0)))
def f__law_cell_at : List D → Rp := runP c__law_cell_at 2
theorem d__law_cell_at (F : ∃ fa fd, mg "_law_cell_at" = some (.ref fa) ∧ FunG K "_law_cell_at" s__law_cell_at fa fd) (B : Bt K mg ct) (T : Xt K mg ct ne) (D : D__law_cell_at P w K mg base ct) : Dp' P w K mg base 2 "_law_cell_at" ["_law_script", "_law_k"] (spP K ct 2 f__law_cell_at) := by
  obtain ⟨fa, fd, hm, F⟩ := F
  have nd := sc__law_cell_at.nd
  refine ⟨fa, fd, hm, F.kp, F.bindsN (fun _ _ _ _ _ _ us hl => match us, hl with | [_, _], _ => rfl), def_P (k := 1) F sc__law_cell_at rfl fun cdv A outer s H E hr => ?_⟩
  have tk := takes_of (X := cxG P w K mg base ["_law_script", "_law_k"] "_law_cell_at" s__law_cell_at fa cdv A outer s H E) rfl rfl rfl rfl
  exact (gs_cons (gs_if (gt_cmp op_lt od_lt (ge_var (pv 1)) (ge_callB call_len cd_len rfl B.len PySem.boot_len (ga_cons (ge_var (pv 0)) ga_nil)) (nomark _)) (gs_one (gs_ret (ge_ix ix_seq od_ix (ge_var (pv 0)) (ge_var (pv 1)) (fun _ _ => rfl)))) gs_nil) (gs_one (gs_ret ge_int)))
abbrev s__law_whole : Stmt := top 26
theorem sc__law_whole : FnScope ["_law_found"] ["_law_found"] (defScope s__law_whole) := ⟨rfl, rfl, rfl, by decide +kernel, rfl, by decide +kernel, by decide +kernel⟩
structure D__law_whole (P : Program) (w : World) (K : PySem.W.Frag) (mg : Str → Option Value) (base : Heap) (ct : Ct) : Prop where
  u_ : True
def c__law_whole : En → M Fl := sRet (xAnd (xUn (opIs .int) (xVar 0)) (xNot (xUn (opIs .bool) (xVar 0))))
def f__law_whole : List D → Rp := runP c__law_whole 1
theorem d__law_whole (F : ∃ fa fd, mg "_law_whole" = some (.ref fa) ∧ FunG K "_law_whole" s__law_whole fa fd) (B : Bt K mg ct) (T : Xt K mg ct ne) (D : D__law_whole P w K mg base ct) : Dp' P w K mg base 2 "_law_whole" ["_law_found"] (spP K ct 1 f__law_whole) := by
  obtain ⟨fa, fd, hm, F⟩ := F
  have nd := sc__law_whole.nd
  refine ⟨fa, fd, hm, F.kp, F.bindsN (fun _ _ _ _ _ _ us hl => match us, hl with | [_], _ => rfl), def_P (k := 1) F sc__law_whole rfl fun cdv A outer s H E hr => ?_⟩
  have tk := takes_of (X := cxG P w K mg base ["_law_found"] "_law_whole" s__law_whole fa cdv A outer s H E) rfl rfl rfl rfl
  exact (gs_one (gs_ret (ge_and (ge_isi (T := .int) rfl B.isinstance rfl B.int (by decide +kernel) (ge_var (pv 0))) (ge_one (ge_not (ge_isi (T := .bool) rfl B.isinstance rfl B.bool (by decide +kernel) (ge_var (pv 0))))))))
abbrev s__law_made : Stmt := top 27
theorem sc__law_made : FnScope ["_law_which", "_law_lines"] ["_law_which", "_law_lines"] (defScope s__law_made) := ⟨rfl, rfl, rfl, by decide +kernel, rfl, by decide +kernel, by decide +kernel⟩
structure D__law_made (P : Program) (w : World) (K : PySem.W.Frag) (mg : Str → Option Value) (base : Heap) (ct : Ct) : Prop where
  one_by_one : Dp' P w K mg base 5 "one_by_one" ["lines"] (spO2 K ct 1 f_one_by_one)
  doubled : Dp' P w K mg base 5 "doubled" ["lines"] (spO2 K ct 1 f_doubled)
  by_halves : Dp' P w K mg base 13 "by_halves" ["lines"] (spO2 K ct 1 f_by_halves)
  by_pairs : Dp' P w K mg base 12 "by_pairs" ["lines"] (spO2 K ct 1 f_by_pairs)
  u_ : True
def c__law_made : En → M Fl := sSeq (sIf (bVal (xBin (opEq true) (xVar 0) (xC (.int 0)))) (sRet (xCallO2 f_one_by_one (aCons (xVar 1) (aNil)))) (sSkip)) (sSeq (sIf (bVal (xBin (opEq true) (xVar 0) (xC (.int 1)))) (sRet (xCallO2 f_doubled (aCons (xVar 1) (aNil)))) (sSkip)) (sSeq (sIf (bVal (xBin (opEq true) (xVar 0) (xC (.int 2)))) (sRet (xCallO2 f_by_halves (aCons (xVar 1) (aNil)))) (sSkip)) (sRet (xCallO2 f_by_pairs (aCons (xVar 1) (aNil))))))
def f__law_made : List D → Rp2 := runO2 c__law_made 2
theorem d__law_made (F : ∃ fa fd, mg "_law_made" = some (.ref fa) ∧ FunG K "_law_made" s__law_made fa fd) (B : Bt K mg ct) (T : Xt K mg ct ne) (D : D__law_made P w K mg base ct) : Dp' P w K mg base 14 "_law_made" ["_law_which", "_law_lines"] (spO2 K ct 2 f__law_made) := by
  obtain ⟨fa, fd, hm, F⟩ := F
  have nd := sc__law_made.nd
  refine ⟨fa, fd, hm, F.kp, F.bindsN (fun _ _ _ _ _ _ us hl => match us, hl with | [_, _], _ => rfl), def_O2 (k := 13) F sc__law_made rfl fun cdv A outer s H E hr => ?_⟩
  have tk := takes_of (X := cxG P w K mg base ["_law_which", "_law_lines"] "_law_made" s__law_made fa cdv A outer s H E) rfl rfl rfl rfl
  exact (gs_cons (gs_if (gt_cmp (op_eqD hr.units) od_eq (ge_var (pv 0)) ge_int (nomark _)) (gs_one (gs_ret (gc_O2 D.one_by_one hr (by decide) tk rfl (an_cons an_nil) (ga_cons (ge_var (pv 1)) ga_nil)))) gs_nil) (gs_cons (gs_if (gt_cmp (op_eqD hr.units) od_eq (ge_var (pv 0)) ge_int (nomark _)) (gs_one (gs_ret (gc_O2 D.doubled hr (by decide) tk rfl (an_cons an_nil) (ga_cons (ge_var (pv 1)) ga_nil)))) gs_nil) (gs_cons (gs_if (gt_cmp (op_eqD hr.units) od_eq (ge_var (pv 0)) ge_int (nomark _)) (gs_one (gs_ret (gc_O2 D.by_halves hr (by decide) tk rfl (an_cons an_nil) (ga_cons (ge_var (pv 1)) ga_nil)))) gs_nil) (gs_one (gs_ret (gc_O2 D.by_pairs hr (by decide) tk rfl (an_cons an_nil) (ga_cons (ge_var (pv 1)) ga_nil)))))))
abbrev s__law_deep : Stmt := top 28
theorem sc__law_deep : FnScope ["_law_lines", "_law_deep_here"] ["_law_lines"] (defScope s__law_deep) := ⟨rfl, rfl, rfl, by decide +kernel, rfl, by decide +kernel, by decide +kernel⟩
structure D__law_deep (P : Program) (w : World) (K : PySem.W.Frag) (mg : Str → Option Value) (base : Heap) (ct : Ct) : Prop where
  u_ : True
def c__law_deep : En → M Fl := sSeq (sAsg (xC (.int 0)) (.nm 1)) (sSeq (sWhile (bVal (xBin opGt (xVar 0) (xC (.int 1)))) (sSeq (sAsg (xBin opSub (xVar 0) (xBin opDiv (xVar 0) (xC (.int 2)))) (.nm 0)) (sAsg (xBin (opAdd false) (xVar 1) (xC (.int 1))) (.nm 1))) 8) (sRet (xVar 1)))
def f__law_deep : List D → Rp := runP c__law_deep 2
theorem d__law_deep (F : ∃ fa fd, mg "_law_deep" = some (.ref fa) ∧ FunG K "_law_deep" s__law_deep fa fd) (B : Bt K mg ct) (T : Xt K mg ct ne) (D : D__law_deep P w K mg base ct) : Dp' P w K mg base 2 "_law_deep" ["_law_lines"] (spP K ct 1 f__law_deep) := by
  obtain ⟨fa, fd, hm, F⟩ := F
  have nd := sc__law_deep.nd
  refine ⟨fa, fd, hm, F.kp, F.bindsN (fun _ _ _ _ _ _ us hl => match us, hl with | [_], _ => rfl), def_P (k := 1) F sc__law_deep rfl fun cdv A outer s H E hr => ?_⟩
  have tk := takes_of (X := cxG P w K mg base ["_law_lines", "_law_deep_here"] "_law_deep" s__law_deep fa cdv A outer s H E) rfl rfl rfl rfl
  have hp : PassesOwn (model P w) _ _ (cxG P w K mg base ["_law_lines", "_law_deep_here"] "_law_deep" s__law_deep fa cdv A outer s H E).xe := passes_of rfl
  exact (gs_cons (gs_asg (t := .nm 1) (ps_set nd rfl (by first | exact .inl rfl | exact .inr rfl) ge_int)) (gs_cons (gs_while 8 hp (gt_cmp op_gt od_gt (ge_var (pv 0)) ge_int (nomark _)) (gs_cons (gs_asg (t := .nm 0) (ps_set nd rfl (by first | exact .inl rfl | exact .inr rfl) (ge_op op_sub od_sub (ge_var (pv 0)) (ge_op op_fdiv od_div (ge_var (pv 0)) ge_int)))) (gs_one (gs_asg (t := .nm 1) (ps_set nd rfl (by first | exact .inl rfl | exact .inr rfl) (ge_op op_addA (od_add false) (ge_var (pv 1)) ge_int)))))) (gs_one (gs_ret (ge_var (pv 1))))))
abbrev s__law_halves : Stmt := top 29
theorem sc__law_halves : FnScope ["_law_lines", "_law_found", "_law_waiting", "_law_first", "_law_behind", "_law_middle", "_law_layer", "_law_line", "_law_high", "_law_low"] ["_law_lines"] (defScope s__law_halves) := ⟨rfl, rfl, rfl, by decide +kernel, rfl, by decide +kernel, by decide +kernel⟩
structure D__law_halves (P : Program) (w : World) (K : PySem.W.Frag) (mg : Str → Option Value) (base : Heap) (ct : Ct) : Prop where
  _law_deep : Dp' P w K mg base 2 "_law_deep" ["_law_lines"] (spP K ct 1 f__law_deep)
  u_ : True
def c__law_halves : En → M Fl := sSeq (sAsg (xLcN true (itR1 (xCallP f__law_deep (aCons (xVar 0) (aNil)))) [6] (.nm 6) (bYes) (xLst false (aNil))) (.nm 1)) (sSeq (sAsg (xLst true (aCons (xTup (aCons (xC (.int 0)) (aCons (xVar 0) (aNil)))) (aNil))) (.nm 2)) (sSeq (sWhile (bVal (xBin (opEq false) (xVar 2) (xLst false (aNil)))) (sSeq (sAsg (xPop (xVar 2)) (.tp [3, 4])) (sIf (bVal (xBin opGt (xBin opSub (xVar 4) (xVar 3)) (xC (.int 1)))) (sSeq (sAsg (xBin opSub (xVar 4) (xBin opDiv (xBin opSub (xVar 4) (xVar 3)) (xC (.int 2)))) (.nm 5)) (sSeq (sAsg (xBin opSub (xCallP f__law_deep (aCons (xBin opSub (xVar 4) (xVar 3)) (aNil))) (xC (.int 1))) (.nm 6)) (sSeq (sSetIx (xBin (opAdd false) (xBin opIx (xVar 1) (xVar 6)) (xLcN false (itR2 (xVar 5) (xVar 4)) [7] (.nm 7) (bYes) (xTup (aCons (xVar 7) (aCons (xBin opSub (xVar 5) (xC (.int 1))) (aNil)))))) (xVar 1) (xVar 6)) (sAsg (xBin (opAdd true) (xVar 2) (xLst false (aCons (xTup (aCons (xVar 3) (aCons (xVar 5) (aNil)))) (aCons (xTup (aCons (xVar 5) (aCons (xVar 4) (aNil)))) (aNil))))) (.nm 2))))) (sSkip))) 130) (sRet (xLcN false (itSeq (xVar 1)) [6] (.nm 6) (bYes) (xLcN false (itSeq (xCall (opSorted false) (aCons (xVar 6) (aNil)))) [8, 9] (.tp [8, 9]) (bYes) (xTup (aCons (xVar 9) (aCons (xVar 8) (aNil)))))))))
def f__law_halves : List D → Rp := runP c__law_halves 10
theorem d__law_halves (F : ∃ fa fd, mg "_law_halves" = some (.ref fa) ∧ FunG K "_law_halves" s__law_halves fa fd) (B : Bt K mg ct) (T : Xt K mg ct ne) (D : D__law_halves P w K mg base ct) : Dp' P w K mg base 3 "_law_halves" ["_law_lines"] (spP K ct 1 f__law_halves) := by
  obtain ⟨fa, fd, hm, F⟩ := F
  have nd := sc__law_halves.nd
  refine ⟨fa, fd, hm, F.kp, F.bindsN (fun _ _ _ _ _ _ us hl => match us, hl with | [_], _ => rfl), def_P (k := 2) F sc__law_halves rfl fun cdv A outer s H E hr => ?_⟩
  have tk := takes_of (X := cxG P w K mg base ["_law_lines", "_law_found", "_law_waiting", "_law_first", "_law_behind", "_law_middle", "_law_layer", "_law_line", "_law_high", "_law_low"] "_law_halves" s__law_halves fa cdv A outer s H E) rfl rfl rfl rfl
  have hp : PassesOwn (model P w) _ _ (cxG P w K mg base ["_law_lines", "_law_found", "_law_waiting", "_law_first", "_law_behind", "_law_middle", "_law_layer", "_law_line", "_law_high", "_law_low"] "_law_halves" s__law_halves fa cdv A outer s H E).xe := passes_of rfl
  exact (gs_cons (gs_lc (own := [("_law_layer", 6)]) (t := .nm 6) (i := 1) (c := true) (by decide) (ps_setLc rfl nd rfl rfl (sw_true rfl rfl rfl (by decide +kernel)) (own := [("_law_layer", 6)]) (gi_r1 rfl B.range (gc_P D._law_deep hr (by decide) tk rfl (an_cons an_nil) (ga_cons (ge_var (pv 0)) ga_nil))) (blkOk_by (own := [("_law_layer", 6)]) (by kernel_rfl)) (fun _ _ _ _ _ => (pg_name (i := 6) nd rfl (by first | exact .inl rfl | exact .inr rfl))) (fun _ _ _ _ _ => gts_nil) (fun _ _ _ _ _ => (ge_lst false ga_nil)))) (gs_cons (gs_asg (t := .nm 2) (ps_set nd rfl (by first | exact .inl rfl | exact .inr rfl) (ge_lst true (ga_cons (ge_tup (ga_cons ge_int (ga_cons (ge_var (pv 0)) ga_nil))) ga_nil)))) (gs_cons (gs_while 130 hp (gt_cmp (op_neD hr.units) od_ne (ge_var (pv 2)) (ge_lst false ga_nil) (nomark _)) (gs_cons (gs_asg (t := .tp [3, 4]) (ps_asg (ge_pop (ge_var (pv 2))) (pg_tup rfl (pgs_cons (pg_name (i := 3) nd rfl (by first | exact .inl rfl | exact .inr rfl)) (pgs_cons (pg_name (i := 4) nd rfl (by first | exact .inl rfl | exact .inr rfl)) pgs_nil))))) (gs_one (gs_if (gt_cmp op_gt od_gt (ge_op op_sub od_sub (ge_var (pv 4)) (ge_var (pv 3))) ge_int (nomark _)) (gs_cons (gs_asg (t := .nm 5) (ps_set nd rfl (by first | exact .inl rfl | exact .inr rfl) (ge_op op_sub od_sub (ge_var (pv 4)) (ge_op op_fdiv od_div (ge_op op_sub od_sub (ge_var (pv 4)) (ge_var (pv 3))) ge_int)))) (gs_cons (gs_asg (t := .nm 6) (ps_set nd rfl (by first | exact .inl rfl | exact .inr rfl) (ge_op op_sub od_sub (gc_P D._law_deep hr (by decide) tk rfl (an_cons an_nil) (ga_cons (ge_op op_sub od_sub (ge_var (pv 4)) (ge_var (pv 3))) ga_nil)) ge_int))) (gs_cons (gs_setIx (ps_asg (ge_op op_addA (od_add false) (ge_ix ix_seq od_ix (ge_var (pv 1)) (ge_var (pv 6)) (fun _ _ => rfl)) (ge_lc false rfl nd (own := [("_law_line", 7)]) (t := .nm 7) (gi_r2 rfl B.range (ge_var (pv 5)) (ge_var (pv 4))) (blkOk_by (own := [("_law_line", 7)]) (by kernel_rfl)) (by decide) (fun _ _ _ _ _ => (pg_name (i := 7) nd rfl (by first | exact .inl rfl | exact .inr rfl))) (fun _ _ _ _ _ => gts_nil) (fun _ _ _ _ _ => (ge_tup (ga_cons (ge_var (pv 7)) (ga_cons (ge_op op_sub od_sub (ge_var (pv 5)) ge_int) ga_nil)))))) (pg_sub (ge_var (pv 1)) (ge_var (pv 6)) set_list))) (gs_one (gs_asg (t := .nm 2) (ps_set nd rfl (by first | exact .inl rfl | exact .inr rfl) (ge_op op_addA (od_add true) (ge_var (pv 2)) (ge_lst false (ga_cons (ge_tup (ga_cons (ge_var (pv 3)) (ga_cons (ge_var (pv 5)) ga_nil))) (ga_cons (ge_tup (ga_cons (ge_var (pv 5)) (ga_cons (ge_var (pv 4)) ga_nil))) ga_nil)))))))))) gs_nil)))) (gs_one (gs_ret (ge_lc false rfl nd (own := [("_law_layer", 6)]) (t := .nm 6) (gi_seq (ge_var (pv 1))) (blkOk_by (own := [("_law_layer", 6)]) (by kernel_rfl)) (by decide) (fun _ _ _ _ _ => (pg_name (i := 6) nd rfl (by first | exact .inl rfl | exact .inr rfl))) (fun _ _ _ _ _ => gts_nil) (fun _ _ _ _ _ => (ge_lc false rfl nd (own := [("_law_high", 8), ("_law_low", 9)]) (t := .tp [8, 9]) (gi_seq (ge_callB cr_sortedPO (cd_sorted false) rfl B.sorted (by decide +kernel) (ga_cons (ge_var (pv 6)) ga_nil))) (blkOk_by (own := [("_law_high", 8), ("_law_low", 9)]) (by kernel_rfl)) (by decide) (fun _ _ _ _ _ => (pg_tup rfl (pgs_cons (pg_name (i := 8) nd rfl (by first | exact .inl rfl | exact .inr rfl)) (pgs_cons (pg_name (i := 9) nd rfl (by first | exact .inl rfl | exact .inr rfl)) pgs_nil)))) (fun _ _ _ _ _ => gts_nil) (fun _ _ _ _ _ => (ge_tup (ga_cons (ge_var (pv 9)) (ga_cons (ge_var (pv 8)) ga_nil))))))))))))
abbrev s__law_pairs : Stmt := top 30
theorem sc__law_pairs : FnScope ["_law_lines", "_law_up", "_law_down", "_law_far", "_law_line", "_law_layer"] ["_law_lines"] (defScope s__law_pairs) := ⟨rfl, rfl, rfl, by decide +kernel, rfl, by decide +kernel, by decide +kernel⟩
structure D__law_pairs (P : Program) (w : World) (K : PySem.W.Frag) (mg : Str → Option Value) (base : Heap) (ct : Ct) : Prop where
  u_ : True
def c__law_pairs : En → M Fl := sSeq (sAsg (xLst true (aNil)) (.nm 1)) (sSeq (sAsg (xLst true (aNil)) (.nm 2)) (sSeq (sAsg (xC (.int 1)) (.nm 3)) (sSeq (sWhile (bVal (xBin opLt (xBin opSub (xBin (opMul false) (xC (.int 2)) (xVar 3)) (xC (.int 1))) (xVar 0))) (sSeq (sDrop (xApp (xVar 1) (xLcN false (itR3 (xBin opSub (xBin (opMul false) (xC (.int 2)) (xVar 3)) (xC (.int 1))) (xVar 0) (xBin (opMul false) (xC (.int 2)) (xVar 3))) [4] (.nm 4) (bYes) (xTup (aCons (xBin opSub (xVar 4) (xVar 3)) (aCons (xVar 4) (aNil))))))) (sSeq (sDrop (xApp (xVar 2) (xLcN false (itR3 (xBin opSub (xBin (opMul false) (xC (.int 3)) (xVar 3)) (xC (.int 1))) (xVar 0) (xBin (opMul false) (xC (.int 2)) (xVar 3))) [4] (.nm 4) (bYes) (xTup (aCons (xBin opSub (xVar 4) (xVar 3)) (aCons (xVar 4) (aNil))))))) (sAsg (xBin (opMul false) (xC (.int 2)) (xVar 3)) (.nm 3)))) 8) (sRet (xLcN false (itSeq (xBin (opAdd false) (xVar 1) (xUn (opRev false) (xVar 2)))) [5] (.nm 5) (bVal (xBin (opEq false) (xVar 5) (xLst false (aNil)))) (xVar 5))))))
def f__law_pairs : List D → Rp := runP c__law_pairs 6
theorem d__law_pairs (F : ∃ fa fd, mg "_law_pairs" = some (.ref fa) ∧ FunG K "_law_pairs" s__law_pairs fa fd) (B : Bt K mg ct) (T : Xt K mg ct ne) (D : D__law_pairs P w K mg base ct) : Dp' P w K mg base 2 "_law_pairs" ["_law_lines"] (spP K ct 1 f__law_pairs) := by
  obtain ⟨fa, fd, hm, F⟩ := F
  have nd := sc__law_pairs.nd
  refine ⟨fa, fd, hm, F.kp, F.bindsN (fun _ _ _ _ _ _ us hl => match us, hl with | [_], _ => rfl), def_P (k := 1) F sc__law_pairs rfl fun cdv A outer s H E hr => ?_⟩
  have tk := takes_of (X := cxG P w K mg base ["_law_lines", "_law_up", "_law_down", "_law_far", "_law_line", "_law_layer"] "_law_pairs" s__law_pairs fa cdv A outer s H E) rfl rfl rfl rfl
  have hp : PassesOwn (model P w) _ _ (cxG P w K mg base ["_law_lines", "_law_up", "_law_down", "_law_far", "_law_line", "_law_layer"] "_law_pairs" s__law_pairs fa cdv A outer s H E).xe := passes_of rfl
  exact (gs_cons (gs_asg (t := .nm 1) (ps_set nd rfl (by first | exact .inl rfl | exact .inr rfl) (ge_lst true ga_nil))) (gs_cons (gs_asg (t := .nm 2) (ps_set nd rfl (by first | exact .inl rfl | exact .inr rfl) (ge_lst true ga_nil))) (gs_cons (gs_asg (t := .nm 3) (ps_set nd rfl (by first | exact .inl rfl | exact .inr rfl) ge_int)) (gs_cons (gs_while 8 hp (gt_cmp op_lt od_lt (ge_op op_sub od_sub (ge_op op_mulA (od_mul false) ge_int (ge_var (pv 3))) ge_int) (ge_var (pv 0)) (nomark _)) (gs_cons (gs_drop (ge_app (ge_var (pv 1)) (ge_lc false rfl nd (own := [("_law_line", 4)]) (t := .nm 4) (gi_r3 rfl B.range (ge_op op_sub od_sub (ge_op op_mulA (od_mul false) ge_int (ge_var (pv 3))) ge_int) (ge_var (pv 0)) (ge_op op_mulA (od_mul false) ge_int (ge_var (pv 3)))) (blkOk_by (own := [("_law_line", 4)]) (by kernel_rfl)) (by decide) (fun _ _ _ _ _ => (pg_name (i := 4) nd rfl (by first | exact .inl rfl | exact .inr rfl))) (fun _ _ _ _ _ => gts_nil) (fun _ _ _ _ _ => (ge_tup (ga_cons (ge_op op_sub od_sub (ge_var (pv 4)) (ge_var (pv 3))) (ga_cons (ge_var (pv 4)) ga_nil))))))) (gs_cons (gs_drop (ge_app (ge_var (pv 2)) (ge_lc false rfl nd (own := [("_law_line", 4)]) (t := .nm 4) (gi_r3 rfl B.range (ge_op op_sub od_sub (ge_op op_mulA (od_mul false) ge_int (ge_var (pv 3))) ge_int) (ge_var (pv 0)) (ge_op op_mulA (od_mul false) ge_int (ge_var (pv 3)))) (blkOk_by (own := [("_law_line", 4)]) (by kernel_rfl)) (by decide) (fun _ _ _ _ _ => (pg_name (i := 4) nd rfl (by first | exact .inl rfl | exact .inr rfl))) (fun _ _ _ _ _ => gts_nil) (fun _ _ _ _ _ => (ge_tup (ga_cons (ge_op op_sub od_sub (ge_var (pv 4)) (ge_var (pv 3))) (ga_cons (ge_var (pv 4)) ga_nil))))))) (gs_one (gs_asg (t := .nm 3) (ps_set nd rfl (by first | exact .inl rfl | exact .inr rfl) (ge_op op_mulA (od_mul false) ge_int (ge_var (pv 3))))))))) (gs_one (gs_ret (ge_lc false rfl nd (own := [("_law_layer", 5)]) (t := .nm 5) (gi_seq (ge_op op_addA (od_add false) (ge_var (pv 1)) (ge_rev false (ge_var (pv 2))))) (blkOk_by (own := [("_law_layer", 5)]) (by kernel_rfl)) (by decide) (fun _ _ _ _ _ => (pg_name (i := 5) nd rfl (by first | exact .inl rfl | exact .inr rfl))) (fun _ _ _ _ _ => gts_one (gt_cmp (op_neD hr.units) od_ne (ge_var (pv 5)) (ge_lst false ga_nil) (nomark _))) (fun _ _ _ _ _ => (ge_var (pv 5))))))))))
abbrev s__law_due : Stmt := top 31
theorem sc__law_due : FnScope ["_law_which", "_law_lines", "_law_far", "_law_line", "_law_one"] ["_law_which", "_law_lines"] (defScope s__law_due) := ⟨rfl, rfl, rfl, by decide +kernel, rfl, by decide +kernel, by decide +kernel⟩
structure D__law_due (P : Program) (w : World) (K : PySem.W.Frag) (mg : Str → Option Value) (base : Heap) (ct : Ct) : Prop where
  _law_halves : Dp' P w K mg base 3 "_law_halves" ["_law_lines"] (spP K ct 1 f__law_halves)
  _law_pairs : Dp' P w K mg base 2 "_law_pairs" ["_law_lines"] (spP K ct 1 f__law_pairs)
  u_ : True
def c__law_due : En → M Fl := sSeq (sIf (bVal (xBin (opEq true) (xVar 0) (xC (.int 0)))) (sRet (xLcN false (itR1 (xBin opSub (xVar 1) (xC (.int 1)))) [3] (.nm 3) (bYes) (xLst false (aCons (xTup (aCons (xVar 3) (aCons (xBin (opAdd false) (xVar 3) (xC (.int 1))) (aNil)))) (aNil))))) (sSkip)) (sSeq (sIf (bVal (xBin (opEq true) (xVar 0) (xC (.int 1)))) (sSeq (sAsg (xLst false (aCons (xC (.int 1)) (aCons (xC (.int 2)) (aCons (xC (.int 4)) (aCons (xC (.int 8)) (aCons (xC (.int 16)) (aCons (xC (.int 32)) (aNil)))))))) (.nm 2)) (sRet (xLcN false (itSeq (xVar 2)) [4] (.nm 4) (bVal (xBin opLt (xVar 4) (xVar 1))) (xLcN false (itR1 (xBin opSub (xVar 1) (xVar 4))) [3] (.nm 3) (bYes) (xTup (aCons (xVar 3) (aCons (xBin (opAdd false) (xVar 3) (xVar 4)) (aNil)))))))) (sSkip)) (sSeq (sIf (bVal (xBin (opEq true) (xVar 0) (xC (.int 2)))) (sRet (xCallP f__law_halves (aCons (xVar 1) (aNil)))) (sSkip)) (sRet (xCallP f__law_pairs (aCons (xVar 1) (aNil))))))
def f__law_due : List D → Rp := runP c__law_due 5
theorem d__law_due (F : ∃ fa fd, mg "_law_due" = some (.ref fa) ∧ FunG K "_law_due" s__law_due fa fd) (B : Bt K mg ct) (T : Xt K mg ct ne) (D : D__law_due P w K mg base ct) : Dp' P w K mg base 4 "_law_due" ["_law_which", "_law_lines"] (spP K ct 2 f__law_due) := by
  obtain ⟨fa, fd, hm, F⟩ := F
  have nd := sc__law_due.nd
  refine ⟨fa, fd, hm, F.kp, F.bindsN (fun _ _ _ _ _ _ us hl => match us, hl with | [_, _], _ => rfl), def_P (k := 3) F sc__law_due rfl fun cdv A outer s H E hr => ?_⟩
  have tk := takes_of (X := cxG P w K mg base ["_law_which", "_law_lines", "_law_far", "_law_line", "_law_one"] "_law_due" s__law_due fa cdv A outer s H E) rfl rfl rfl rfl
  exact (gs_cons (gs_if (gt_cmp (op_eqD hr.units) od_eq (ge_var (pv 0)) ge_int (nomark _)) (gs_one (gs_ret (ge_lc false rfl nd (own := [("_law_line", 3)]) (t := .nm 3) (gi_r1 rfl B.range (ge_op op_sub od_sub (ge_var (pv 1)) ge_int)) (blkOk_by (own := [("_law_line", 3)]) (by kernel_rfl)) (by decide) (fun _ _ _ _ _ => (pg_name (i := 3) nd rfl (by first | exact .inl rfl | exact .inr rfl))) (fun _ _ _ _ _ => gts_nil) (fun _ _ _ _ _ => (ge_lst false (ga_cons (ge_tup (ga_cons (ge_var (pv 3)) (ga_cons (ge_op op_addA (od_add false) (ge_var (pv 3)) ge_int) ga_nil))) ga_nil)))))) gs_nil) (gs_cons (gs_if (gt_cmp (op_eqD hr.units) od_eq (ge_var (pv 0)) ge_int (nomark _)) (gs_cons (gs_asg (t := .nm 2) (ps_set nd rfl (by first | exact .inl rfl | exact .inr rfl) (ge_lst false (ga_cons ge_int (ga_cons ge_int (ga_cons ge_int (ga_cons ge_int (ga_cons ge_int (ga_cons ge_int ga_nil))))))))) (gs_one (gs_ret (ge_lc false rfl nd (own := [("_law_one", 4)]) (t := .nm 4) (gi_seq (ge_var (pv 2))) (blkOk_by (own := [("_law_one", 4)]) (by kernel_rfl)) (by decide) (fun _ _ _ _ _ => (pg_name (i := 4) nd rfl (by first | exact .inl rfl | exact .inr rfl))) (fun _ _ _ _ _ => gts_one (gt_cmp op_lt od_lt (ge_var (pv 4)) (ge_var (pv 1)) (nomark _))) (fun _ _ _ _ _ => (ge_lc false rfl nd (own := [("_law_line", 3)]) (t := .nm 3) (gi_r1 rfl B.range (ge_op op_sub od_sub (ge_var (pv 1)) (ge_var (pv 4)))) (blkOk_by (own := [("_law_line", 3)]) (by kernel_rfl)) (by decide) (fun _ _ _ _ _ => (pg_name (i := 3) nd rfl (by first | exact .inl rfl | exact .inr rfl))) (fun _ _ _ _ _ => gts_nil) (fun _ _ _ _ _ => (ge_tup (ga_cons (ge_var (pv 3)) (ga_cons (ge_op op_addA (od_add false) (ge_var (pv 3)) (ge_var (pv 4))) ga_nil)))))))))) gs_nil) (gs_cons (gs_if (gt_cmp (op_eqD hr.units) od_eq (ge_var (pv 0)) ge_int (nomark _)) (gs_one (gs_ret (gc_P D._law_halves hr (by decide) tk rfl (an_cons an_nil) (ga_cons (ge_var (pv 1)) ga_nil)))) gs_nil) (gs_one (gs_ret (gc_P D._law_pairs hr (by decide) tk rfl (an_cons an_nil) (ga_cons (ge_var (pv 1)) ga_nil)))))))
abbrev s__law_refused : Stmt := top 32
theorem sc__law_refused : FnScope ["_law_which", "_law_lines", "e"] ["_law_which", "_law_lines"] (defScope s__law_refused) := ⟨rfl, rfl, rfl, by decide +kernel, rfl, by decide +kernel, by decide +kernel⟩
structure D__law_refused (P : Program) (w : World) (K : PySem.W.Frag) (mg : Str → Option Value) (base : Heap) (ct : Ct) : Prop where
  _law_made : Dp' P w K mg base 14 "_law_made" ["_law_which", "_law_lines"] (spO2 K ct 2 f__law_made)
  u_ : True
def c__law_refused : En → M Fl := sSeq (sTryB 2 (sDrop (xCallP (asP f__law_made) (aCons (xVar 0) (aCons (xVar 1) (aNil))))) (fun y => match y with | .lines => some true | _ => none)) (sRet (xC (.bl false)))
def f__law_refused : List D → Rp := runP c__law_refused 3
theorem d__law_refused (F : ∃ fa fd, mg "_law_refused" = some (.ref fa) ∧ FunG K "_law_refused" s__law_refused fa fd) (B : Bt K mg ct) (T : Xt K mg ct ne) (D : D__law_refused P w K mg base ct) : Dp' P w K mg base 15 "_law_refused" ["_law_which", "_law_lines"] (spP K ct 2 f__law_refused) := by
  obtain ⟨fa, fd, hm, F⟩ := F
  have nd := sc__law_refused.nd
  refine ⟨fa, fd, hm, F.kp, F.bindsN (fun _ _ _ _ _ _ us hl => match us, hl with | [_, _], _ => rfl), def_P (k := 14) F sc__law_refused rfl fun cdv A outer s H E hr => ?_⟩
  have tk := takes_of (X := cxG P w K mg base ["_law_which", "_law_lines", "e"] "_law_refused" s__law_refused fa cdv A outer s H E) rfl rfl rfl rfl
  exact (gs_cons (gs_tryB (i := 2) (g := (fun y => match y with | .lines => some true | _ => none)) T rfl rfl nd rfl rfl rfl tk (fun W pn xe tk hp => (gs_one (gs_drop (gc_P (Dp'.ofO2 D._law_made) hr (by decide) tk rfl (an_cons (an_cons an_nil)) (ga_cons (ge_var (pv 0)) (ga_cons (ge_var (pv 1)) ga_nil)))))) (fun y b hg a oe pn hz hf => match y, b, hg with | .lines, true, _ => (pss_ifF (pw_orF (pt_b (pe_isOwn (X := cxG P w K mg base ["_law_which", "_law_lines", "e"] "_law_refused" s__law_refused fa cdv A outer s H E) (a := a) (pn := pn) (T.ex .lines) hz hf B.isinstance B.x_kind.mg (T.is4 .lines .kind) (pv 2) rfl rfl)) (pw_orF (pt_b (pe_isOwn (X := cxG P w K mg base ["_law_which", "_law_lines", "e"] "_law_refused" s__law_refused fa cdv A outer s H E) (a := a) (pn := pn) (T.ex .lines) hz hf B.isinstance T.mgN (T.isN .lines) (pv 2) rfl rfl)) (pw_orF (pt_b (pe_isOwn (X := cxG P w K mg base ["_law_which", "_law_lines", "e"] "_law_refused" s__law_refused fa cdv A outer s H E) (a := a) (pn := pn) (T.ex .lines) hz hf B.isinstance B.x_thing.mg (T.is4 .lines .thing) (pv 2) rfl rfl)) (pw_orF1 (pt_b (pe_isOwn (X := cxG P w K mg base ["_law_which", "_law_lines", "e"] "_law_refused" s__law_refused fa cdv A outer s H E) (a := a) (pn := pn) (T.ex .lines) hz hf B.isinstance B.x_nonet.mg (T.is4 .lines .nonet) (pv 2) rfl rfl)))))).pt (pss_one (ps_ret pe_bl)) (pss_retB (pe_andT (pe_isOwn (X := cxG P w K mg base ["_law_which", "_law_lines", "e"] "_law_refused" s__law_refused fa cdv A outer s H E) (a := a) (pn := pn) (T.ex .lines) hz hf B.isinstance B.x_lines.mg (T.is4 .lines .lines) (pv 2) rfl rfl) (pe_andT1 (pe_isVal (X := cxG P w K mg base ["_law_which", "_law_lines", "e"] "_law_refused" s__law_refused fa cdv A outer s H E) (a := a) (pn := pn) (T.ex .lines) hz hf B.isinstance T.mgV (T.isV .lines) (pv 2) rfl rfl))))))) (gs_one (gs_ret ge_bl)))
abbrev s_law : Stmt := top 33
theorem sc_law : FnScope ["_law_script", "_law_lines", "_law_odd", "_law_which", "_law_found", "_law_due_here", "_law_layer", "_law_other", "_law_joint"] ["_law_script"] (defScope s_law) := ⟨rfl, rfl, rfl, by decide +kernel, rfl, by decide +kernel, by decide +kernel⟩
structure D_law (P : Program) (w : World) (K : PySem.W.Frag) (mg : Str → Option Value) (base : Heap) (ct : Ct) : Prop where
  _law_cell_at : Dp' P w K mg base 2 "_law_cell_at" ["_law_script", "_law_k"] (spP K ct 2 f__law_cell_at)
  _law_made : Dp' P w K mg base 14 "_law_made" ["_law_which", "_law_lines"] (spO2 K ct 2 f__law_made)
  _law_due : Dp' P w K mg base 4 "_law_due" ["_law_which", "_law_lines"] (spP K ct 2 f__law_due)
  _law_refused : Dp' P w K mg base 15 "_law_refused" ["_law_which", "_law_lines"] (spP K ct 2 f__law_refused)
  _law_whole : Dp' P w K mg base 2 "_law_whole" ["_law_found"] (spP K ct 1 f__law_whole)
  u_ : True
def c_law : En → M Fl := sSeq (sAsg (xBin (opAdd false) (xC (.int 1)) (xBin opMod (xCallP f__law_cell_at (aCons (xVar 0) (aCons (xC (.int 0)) (aNil)))) (xC (.int 64)))) (.nm 1)) (sSeq (sAsg (xBin opIx (xLst false (aCons (xC (.int 0)) (aCons (xUn opNeg (xC (.int 1))) (aCons (xC (.int 65)) (aCons (xC (.bl true)) (aCons (xC .non) (aCons (xC (.str (PySem.Str.ofString "5"))) (aCons (xLst false (aCons (xC (.int 5)) (aNil))) (aCons (xC (.bl false)) (aCons (xBin opPow (xC (.int 10)) (xC (.int 30))) (aCons (xTup (aCons (xC (.int 3)) (aNil))) (aNil)))))))))))) (xBin opMod (xCallP f__law_cell_at (aCons (xVar 0) (aCons (xC (.int 1)) (aNil)))) (xC (.int 10)))) (.nm 2)) (sSeq (sFor (itR1 (xC (.int 4))) (.nm 3) (sSeq (sAsg (xCallO2 f__law_made (aCons (xVar 3) (aCons (xVar 1) (aNil)))) (.nm 4)) (sSeq (sAsg (xCallP f__law_due (aCons (xVar 3) (aCons (xVar 1) (aNil)))) (.nm 5)) (sSeq (sIf (bOr (bNot (bVal (xUn (opIs .list) (xVar 4)))) (bOr (bVal (xBin (opEq false) (xVar 4) (xVar 5))) (bNot (bVal (xCallP f__law_refused (aCons (xVar 3) (aCons (xVar 2) (aNil)))))))) (sRet (xC (.bl false))) (sSkip)) (sSeq (sFor (itSeq (xVar 4)) (.nm 6) (sSeq (sIf (bOr (bNot (bVal (xUn (opIs .list) (xVar 6)))) (bNot (bVal (xCall opAll (aCons (xLcN false (itSeq (xVar 6)) [8] (.nm 8) (bYes) (xUn (opIs .tuple) (xVar 8))) (aNil)))))) (sRet (xC (.bl false))) (sSkip)) (sSeq (sIf (bNot (bVal (xCall opAll (aCons (xLcN false (itSeq (xVar 6)) [8] (.nm 8) (bYes) (xAnd (xCallP f__law_whole (aCons (xBin opIx (xVar 8) (xC (.int 0))) (aNil))) (xCallP f__law_whole (aCons (xBin opIx (xVar 8) (xC (.int 1))) (aNil))))) (aNil))))) (sRet (xC (.bl false))) (sSkip)) (sDrop (xApp (xVar 6) (xTup (aCons (xC (.int 0)) (aCons (xC (.int 99)) (aNil))))))))) (sSeq (sFor (itZip (xVar 4) (xVar 5)) (.tp [6, 7]) (sIf (bVal (xBin (opEq false) (xVar 6) (xBin (opAdd false) (xVar 7) (xLst false (aCons (xTup (aCons (xC (.int 0)) (aCons (xC (.int 99)) (aNil)))) (aNil)))))) (sRet (xC (.bl false))) (sSkip))) (sIf (bVal (xBin (opEq false) (xCallP (asP f__law_made) (aCons (xVar 3) (aCons (xVar 1) (aNil)))) (xVar 5))) (sRet (xC (.bl false))) (sSkip)))))))) (sRet (xC (.bl true)))))
def f_law : List D → Rp := runP c_law 9
theorem d_law {fa : Addr} {fd : FuncData} (F : FunG K "law" s_law fa fd) (B : Bt K mg ct) (T : Xt K mg ct ne) (D : D_law P w K mg base ct) : FnP P w K mg base 16 fa fd ["_law_script"] (spP K ct 1 f_law) := by
  have nd := sc_law.nd
  refine def_P (k := 15) F sc_law rfl fun cdv A outer s H E hr => ?_
  have tk := takes_of (X := cxG P w K mg base ["_law_script", "_law_lines", "_law_odd", "_law_which", "_law_found", "_law_due_here", "_law_layer", "_law_other", "_law_joint"] "law" s_law fa cdv A outer s H E) rfl rfl rfl rfl
  have hp : PassesOwn (model P w) _ _ (cxG P w K mg base ["_law_script", "_law_lines", "_law_odd", "_law_which", "_law_found", "_law_due_here", "_law_layer", "_law_other", "_law_joint"] "law" s_law fa cdv A outer s H E).xe := passes_of rfl
  exact (gs_cons (gs_asg (t := .nm 1) (ps_set nd rfl (by first | exact .inl rfl | exact .inr rfl) (ge_op op_addA (od_add false) ge_int (ge_op op_mod od_mod (gc_P D._law_cell_at hr (by decide) tk rfl (an_cons (an_cons an_nil)) (ga_cons (ge_var (pv 0)) (ga_cons ge_int ga_nil))) ge_int)))) (gs_cons (gs_asg (t := .nm 2) (ps_set nd rfl (by first | exact .inl rfl | exact .inr rfl) (ge_ix ix_seq od_ix (ge_lst false (ga_cons ge_int (ga_cons (ge_un un_neg ud_neg ge_int) (ga_cons ge_int (ga_cons ge_bl (ga_cons ge_non (ga_cons ge_str (ga_cons (ge_lst false (ga_cons ge_int ga_nil)) (ga_cons ge_bl (ga_cons (ge_op op_pow od_pow ge_int ge_int) (ga_cons (ge_tup (ga_cons ge_int ga_nil)) ga_nil))))))))))) (ge_op op_mod od_mod (gc_P D._law_cell_at hr (by decide) tk rfl (an_cons (an_cons an_nil)) (ga_cons (ge_var (pv 0)) (ga_cons ge_int ga_nil))) ge_int) (fun _ _ => rfl)))) (gs_cons (gs_for (t := .nm 3) hp rfl (gi_r1 rfl B.range ge_int) (pg_name (i := 3) nd rfl (by first | exact .inl rfl | exact .inr rfl)) (gs_cons (gs_asg (t := .nm 4) (ps_set nd rfl (by first | exact .inl rfl | exact .inr rfl) (gc_O2 D._law_made hr (by decide) tk rfl (an_cons (an_cons an_nil)) (ga_cons (ge_var (pv 3)) (ga_cons (ge_var (pv 1)) ga_nil))))) (gs_cons (gs_asg (t := .nm 5) (ps_set nd rfl (by first | exact .inl rfl | exact .inr rfl) (gc_P D._law_due hr (by decide) tk rfl (an_cons (an_cons an_nil)) (ga_cons (ge_var (pv 3)) (ga_cons (ge_var (pv 1)) ga_nil))))) (gs_cons (gs_if (PW.pt (gw_or (gt_not (gt_val (ge_isi (T := .list) rfl B.isinstance rfl B.list (by decide +kernel) (ge_var (pv 4))))) (gw_or (gt_cmp (op_neD hr.units) od_ne (ge_var (pv 4)) (ge_var (pv 5)) (nomark _)) (gw_or1 (gt_not (gt_val (gc_P D._law_refused hr (by decide) tk rfl (an_cons (an_cons an_nil)) (ga_cons (ge_var (pv 3)) (ga_cons (ge_var (pv 2)) ga_nil))))))))) (gs_one (gs_ret ge_bl)) gs_nil) (gs_cons (gs_for (t := .nm 6) hp rfl (gi_seq (ge_var (pv 4))) (pg_name (i := 6) nd rfl (by first | exact .inl rfl | exact .inr rfl)) (gs_cons (gs_if (PW.pt (gw_or (gt_not (gt_val (ge_isi (T := .list) rfl B.isinstance rfl B.list (by decide +kernel) (ge_var (pv 6))))) (gw_or1 (gt_not (gt_val (ge_callB (cr_all rfl) cd_all rfl B.all (by decide +kernel) (ga_cons (ge_lc false rfl nd (own := [("_law_joint", 8)]) (t := .nm 8) (gi_seq (ge_var (pv 6))) (blkOk_by (own := [("_law_joint", 8)]) (by kernel_rfl)) (by decide) (fun _ _ _ _ _ => (pg_name (i := 8) nd rfl (by first | exact .inl rfl | exact .inr rfl))) (fun _ _ _ _ _ => gts_nil) (fun _ _ _ _ _ => (ge_isi (T := .tuple) rfl B.isinstance rfl B.tuple (by decide +kernel) (ge_var (pv 8))))) ga_nil))))))) (gs_one (gs_ret ge_bl)) gs_nil) (gs_cons (gs_if (gt_not (gt_val (ge_callB (cr_all rfl) cd_all rfl B.all (by decide +kernel) (ga_cons (ge_lc false rfl nd (own := [("_law_joint", 8)]) (t := .nm 8) (gi_seq (ge_var (pv 6))) (blkOk_by (own := [("_law_joint", 8)]) (by kernel_rfl)) (by decide) (fun _ _ _ _ _ => (pg_name (i := 8) nd rfl (by first | exact .inl rfl | exact .inr rfl))) (fun _ _ _ _ _ => gts_nil) (fun _ _ _ _ _ => (ge_and (gc_P D._law_whole hr (by decide) takes0 rfl (an_cons an_nil) (ga_cons (ge_ix ix_seq od_ix (ge_var (pv 8)) ge_int (fun _ _ => rfl)) ga_nil)) (ge_one (gc_P D._law_whole hr (by decide) takes0 rfl (an_cons an_nil) (ga_cons (ge_ix ix_seq od_ix (ge_var (pv 8)) ge_int (fun _ _ => rfl)) ga_nil)))))) ga_nil)))) (gs_one (gs_ret ge_bl)) gs_nil) (gs_one (gs_drop (ge_app (ge_var (pv 6)) (ge_tup (ga_cons ge_int (ga_cons ge_int ga_nil))))))))) (gs_cons (gs_for (t := .tp [6, 7]) hp rfl (gi_zip rfl B.zip (ge_var (pv 4)) (ge_var (pv 5))) (pg_tup rfl (pgs_cons (pg_name (i := 6) nd rfl (by first | exact .inl rfl | exact .inr rfl)) (pgs_cons (pg_name (i := 7) nd rfl (by first | exact .inl rfl | exact .inr rfl)) pgs_nil))) (gs_one (gs_if (gt_cmp (op_neD hr.units) od_ne (ge_var (pv 6)) (ge_op op_addA (od_add false) (ge_var (pv 7)) (ge_lst false (ga_cons (ge_tup (ga_cons ge_int (ga_cons ge_int ga_nil))) ga_nil))) (nomark _)) (gs_one (gs_ret ge_bl)) gs_nil))) (gs_one (gs_if (gt_cmp (op_neD hr.units) od_ne (gc_P (Dp'.ofO2 D._law_made) hr (by decide) tk rfl (an_cons (an_cons an_nil)) (ga_cons (ge_var (pv 3)) (ga_cons (ge_var (pv 1)) ga_nil))) (ge_var (pv 5)) (nomark _)) (gs_one (gs_ret ge_bl)) gs_nil)))))))) (gs_one (gs_ret ge_bl)))))
end
end LK
namespace LK
open L2 G PySem PySem.Spec PyProof.Rows
/-- what the program made and what is due agree, and are nets -/
def chk (w l : Int) : Bool := match f__law_made [.int w, .int l], f__law_due [.int w, .int l] with
  | .ok L, .ok (.lst M) => eqDL (L.map .lst) M && ((toNet L).isSome && (decide (L.length ≤ 64) && L.all fun xs => decide (xs.length ≤ 64)))
  | _, _ => false
def chkl (l : Int) : Bool := chk 0 l && (chk 1 l && (chk 2 l && chk 3 l))
theorem ck_1 : chkl (Int.ofNat 1) = true := by kernel_rfl
theorem ck_2 : chkl (Int.ofNat 2) = true := by kernel_rfl
theorem ck_3 : chkl (Int.ofNat 3) = true := by kernel_rfl
theorem ck_4 : chkl (Int.ofNat 4) = true := by kernel_rfl
theorem ck_5 : chkl (Int.ofNat 5) = true := by kernel_rfl
theorem ck_6 : chkl (Int.ofNat 6) = true := by kernel_rfl
theorem ck_7 : chkl (Int.ofNat 7) = true := by kernel_rfl
theorem ck_8 : chkl (Int.ofNat 8) = true := by kernel_rfl
theorem ck_9 : chkl (Int.ofNat 9) = true := by kernel_rfl
theorem ck_10 : chkl (Int.ofNat 10) = true := by kernel_rfl
theorem ck_11 : chkl (Int.ofNat 11) = true := by kernel_rfl
theorem ck_12 : chkl (Int.ofNat 12) = true := by kernel_rfl
theorem ck_13 : chkl (Int.ofNat 13) = true := by kernel_rfl
theorem ck_14 : chkl (Int.ofNat 14) = true := by kernel_rfl
theorem ck_15 : chkl (Int.ofNat 15) = true := by kernel_rfl
theorem ck_16 : chkl (Int.ofNat 16) = true := by kernel_rfl
theorem ck_17 : chkl (Int.ofNat 17) = true := by kernel_rfl
theorem ck_18 : chkl (Int.ofNat 18) = true := by kernel_rfl
theorem ck_19 : chkl (Int.ofNat 19) = true := by kernel_rfl
theorem ck_20 : chkl (Int.ofNat 20) = true := by kernel_rfl
theorem ck_21 : chkl (Int.ofNat 21) = true := by kernel_rfl
theorem ck_22 : chkl (Int.ofNat 22) = true := by kernel_rfl
theorem ck_23 : chkl (Int.ofNat 23) = true := by kernel_rfl
theorem ck_24 : chkl (Int.ofNat 24) = true := by kernel_rfl
theorem ck_25 : chkl (Int.ofNat 25) = true := by kernel_rfl
theorem ck_26 : chkl (Int.ofNat 26) = true := by kernel_rfl
theorem ck_27 : chkl (Int.ofNat 27) = true := by kernel_rfl
theorem ck_28 : chkl (Int.ofNat 28) = true := by kernel_rfl
theorem ck_29 : chkl (Int.ofNat 29) = true := by kernel_rfl
theorem ck_30 : chkl (Int.ofNat 30) = true := by kernel_rfl
theorem ck_31 : chkl (Int.ofNat 31) = true := by kernel_rfl
theorem ck_32 : chkl (Int.ofNat 32) = true := by kernel_rfl
theorem ck_33 : chkl (Int.ofNat 33) = true := by kernel_rfl
theorem ck_34 : chkl (Int.ofNat 34) = true := by kernel_rfl
theorem ck_35 : chkl (Int.ofNat 35) = true := by kernel_rfl
theorem ck_36 : chkl (Int.ofNat 36) = true := by kernel_rfl
theorem ck_37 : chkl (Int.ofNat 37) = true := by kernel_rfl
theorem ck_38 : chkl (Int.ofNat 38) = true := by kernel_rfl
theorem ck_39 : chkl (Int.ofNat 39) = true := by kernel_rfl
theorem ck_40 : chkl (Int.ofNat 40) = true := by kernel_rfl
theorem ck_41 : chkl (Int.ofNat 41) = true := by kernel_rfl
theorem ck_42 : chkl (Int.ofNat 42) = true := by kernel_rfl
theorem ck_43 : chkl (Int.ofNat 43) = true := by kernel_rfl
theorem ck_44 : chkl (Int.ofNat 44) = true := by kernel_rfl
theorem ck_45 : chkl (Int.ofNat 45) = true := by kernel_rfl
theorem ck_46 : chkl (Int.ofNat 46) = true := by kernel_rfl
theorem ck_47 : chkl (Int.ofNat 47) = true := by kernel_rfl
theorem ck_48 : chkl (Int.ofNat 48) = true := by kernel_rfl
theorem ck_49 : chkl (Int.ofNat 49) = true := by kernel_rfl
theorem ck_50 : chkl (Int.ofNat 50) = true := by kernel_rfl
theorem ck_51 : chkl (Int.ofNat 51) = true := by kernel_rfl
theorem ck_52 : chkl (Int.ofNat 52) = true := by kernel_rfl
theorem ck_53 : chkl (Int.ofNat 53) = true := by kernel_rfl
theorem ck_54 : chkl (Int.ofNat 54) = true := by kernel_rfl
theorem ck_55 : chkl (Int.ofNat 55) = true := by kernel_rfl
theorem ck_56 : chkl (Int.ofNat 56) = true := by kernel_rfl
theorem ck_57 : chkl (Int.ofNat 57) = true := by kernel_rfl
theorem ck_58 : chkl (Int.ofNat 58) = true := by kernel_rfl
theorem ck_59 : chkl (Int.ofNat 59) = true := by kernel_rfl
theorem ck_60 : chkl (Int.ofNat 60) = true := by kernel_rfl
theorem ck_61 : chkl (Int.ofNat 61) = true := by kernel_rfl
theorem ck_62 : chkl (Int.ofNat 62) = true := by kernel_rfl
theorem ck_63 : chkl (Int.ofNat 63) = true := by kernel_rfl
theorem ck_64 : chkl (Int.ofNat 64) = true := by kernel_rfl
theorem ckAll : ∀ n : Nat, n < 64 → chkl (Int.ofNat (n + 1)) = true
  | 0, _ => ck_1
  | 1, _ => ck_2
  | 2, _ => ck_3
  | 3, _ => ck_4
  | 4, _ => ck_5
  | 5, _ => ck_6
  | 6, _ => ck_7
  | 7, _ => ck_8
  | 8, _ => ck_9
  | 9, _ => ck_10
  | 10, _ => ck_11
  | 11, _ => ck_12
  | 12, _ => ck_13
  | 13, _ => ck_14
  | 14, _ => ck_15
  | 15, _ => ck_16
  | 16, _ => ck_17
  | 17, _ => ck_18
  | 18, _ => ck_19
  | 19, _ => ck_20
  | 20, _ => ck_21
  | 21, _ => ck_22
  | 22, _ => ck_23
  | 23, _ => ck_24
  | 24, _ => ck_25
  | 25, _ => ck_26
  | 26, _ => ck_27
  | 27, _ => ck_28
  | 28, _ => ck_29
  | 29, _ => ck_30
  | 30, _ => ck_31
  | 31, _ => ck_32
  | 32, _ => ck_33
  | 33, _ => ck_34
  | 34, _ => ck_35
  | 35, _ => ck_36
  | 36, _ => ck_37
  | 37, _ => ck_38
  | 38, _ => ck_39
  | 39, _ => ck_40
  | 40, _ => ck_41
  | 41, _ => ck_42
  | 42, _ => ck_43
  | 43, _ => ck_44
  | 44, _ => ck_45
  | 45, _ => ck_46
  | 46, _ => ck_47
  | 47, _ => ck_48
  | 48, _ => ck_49
  | 49, _ => ck_50
  | 50, _ => ck_51
  | 51, _ => ck_52
  | 52, _ => ck_53
  | 53, _ => ck_54
  | 54, _ => ck_55
  | 55, _ => ck_56
  | 56, _ => ck_57
  | 57, _ => ck_58
  | 58, _ => ck_59
  | 59, _ => ck_60
  | 60, _ => ck_61
  | 61, _ => ck_62
  | 62, _ => ck_63
  | 63, _ => ck_64
  | n + 64, h => absurd h (by omega)
def chkR (o : D) : Bool := isT (f__law_refused [.int 0, o]) && (isT (f__law_refused [.int 1, o]) && (isT (f__law_refused [.int 2, o]) && isT (f__law_refused [.int 3, o])))
def odds : List D := [.int 0, .int (-1), .int 65, .bl true, .non, .str (PySem.Str.ofString "5"), .lst [.int 5], .bl false, .int (10 ^ 30), .tup [.int 3]]
theorem ckR : odds.all chkR = true := by kernel_rfl
end LK
namespace LK
open L2 G PySem PySem.Spec PyProof.Rows
theorem cellAt (ns : List Int) (k : Nat) : ∃ c : Int, f__law_cell_at [.scr ns, .int (k : Int)] = .ok (.int c) := by
  have hl : (xCall opLen (aCons (xVar 0) aNil)) (startE 2 [.scr ns, .int (k : Int)]) [] = .ok (.int ns.length) [] := by
    rw [call_ok (cons_ok (var_at rfl) rfl)]
    show (Rs.ok (D.int ((ns.map D.int).length : Nat)) [] : Rs D) = _
    rw [List.length_map]
  have ht : (bVal (xBin opLt (xVar 1) (xCall opLen (aCons (xVar 0) aNil)))) (startE 2 [.scr ns, .int (k : Int)]) [] = .ok (decide ((k : Int) < ns.length)) [] := by
    refine val_b ?_
    rw [bin_ok (var_at rfl) hl]
    rfl
  by_cases h : k < ns.length
  · rw [decide_eq_true (by omega)] at ht
    refine ⟨ns[k], runP_rt (cs := []) (d := .int ns[k]) (seq_rt ?_) rfl⟩
    rw [if_t ht]
    refine ret_rt ?_
    rw [bin_ok (var_at rfl) (var_at rfl)]
    show M.ofO (atI (ns.map D.int) (k : Int)) [] = _
    rw [atI_map_int ns k h]
    rfl
  · rw [decide_eq_false (by omega)] at ht
    refine ⟨0, runP_rt (cs := []) (d := .int 0) ?_ rfl⟩
    show sSeq _ _ _ _ = _
    rw [seq_nx (if_f ht)]
    rfl
theorem whole_int (i : Int) : f__law_whole [.int i] = .ok (.bl true) := rfl
/-! ### the law's loops -/
abbrev b1 : En → M Fl := (sSeq (sIf (bOr (bNot (bVal (xUn (opIs .list) (xVar 6)))) (bNot (bVal (xCall opAll (aCons (xLcN false (itSeq (xVar 6)) [8] (.nm 8) (bYes) (xUn (opIs .tuple) (xVar 8))) (aNil)))))) (sRet (xC (.bl false))) (sSkip)) (sSeq (sIf (bNot (bVal (xCall opAll (aCons (xLcN false (itSeq (xVar 6)) [8] (.nm 8) (bYes) (xAnd (xCallP f__law_whole (aCons (xBin opIx (xVar 8) (xC (.int 0))) (aNil))) (xCallP f__law_whole (aCons (xBin opIx (xVar 8) (xC (.int 1))) (aNil))))) (aNil))))) (sRet (xC (.bl false))) (sSkip)) (sDrop (xApp (xVar 6) (xTup (aCons (xC (.int 0)) (aCons (xC (.int 99)) (aNil))))))))
abbrev b2 : En → M Fl := (sIf (bVal (xBin (opEq false) (xVar 6) (xBin (opAdd false) (xVar 7) (xLst false (aCons (xTup (aCons (xC (.int 0)) (aCons (xC (.int 99)) (aNil)))) (aNil)))))) (sRet (xC (.bl false))) (sSkip))
abbrev bW : En → M Fl := (sSeq (sAsg (xCallO2 f__law_made (aCons (xVar 3) (aCons (xVar 1) (aNil)))) (.nm 4)) (sSeq (sAsg (xCallP f__law_due (aCons (xVar 3) (aCons (xVar 1) (aNil)))) (.nm 5)) (sSeq (sIf (bOr (bNot (bVal (xUn (opIs .list) (xVar 4)))) (bOr (bVal (xBin (opEq false) (xVar 4) (xVar 5))) (bNot (bVal (xCallP f__law_refused (aCons (xVar 3) (aCons (xVar 2) (aNil)))))))) (sRet (xC (.bl false))) (sSkip)) (sSeq (sFor (itSeq (xVar 4)) (.nm 6) b1) (sSeq (sFor (itZip (xVar 4) (xVar 5)) (.tp [6, 7]) b2) (sIf (bVal (xBin (opEq false) (xCallP (asP f__law_made) (aCons (xVar 3) (aCons (xVar 1) (aNil)))) (xVar 5))) (sRet (xC (.bl false))) (sSkip)))))))
abbrev bA : En → M Fl := sAsg (xBin (opAdd false) (xC (.int 1)) (xBin opMod (xCallP f__law_cell_at (aCons (xVar 0) (aCons (xC (.int 0)) (aNil)))) (xC (.int 64)))) (.nm 1)
abbrev bB : En → M Fl := sAsg (xBin opIx (xLst false (aCons (xC (.int 0)) (aCons (xUn opNeg (xC (.int 1))) (aCons (xC (.int 65)) (aCons (xC (.bl true)) (aCons (xC .non) (aCons (xC (.str (PySem.Str.ofString "5"))) (aCons (xLst false (aCons (xC (.int 5)) (aNil))) (aCons (xC (.bl false)) (aCons (xBin opPow (xC (.int 10)) (xC (.int 30))) (aCons (xTup (aCons (xC (.int 3)) (aNil))) (aNil)))))))))))) (xBin opMod (xCallP f__law_cell_at (aCons (xVar 0) (aCons (xC (.int 1)) (aNil)))) (xC (.int 10)))) (.nm 2)
theorem c_law_eq : c_law = sSeq bA (sSeq bB (sSeq (sFor (itR1 (xC (.int 4))) (.nm 3) bW) (sRet (xC (.bl true))))) := rfl
/-- the layer's own body -/
theorem run_b1 {x0 x1 x2 x3 x4 x5 x7 x8 : Option D} {cs : Cs} {i : Nat} {xs : List (Int × Int)} (hc : cs[i]? = some (layD xs)) (hz : xs.length ≤ 64) :
    b1 [x0, x1, x2, x3, x4, x5, some (.ref i), x7, x8] cs = .ok (.nx [x0, x1, x2, x3, x4, x5, some (.ref i), x7, x8]) (cs.set i (layD (xs ++ [(0, 99)]))) := by
  have e1 : (bNot (bVal (xUn (opIs .list) (xVar 6)))) [x0, x1, x2, x3, x4, x5, some (.ref i), x7, x8] cs = .ok false cs := rfl
  have e2 := all_true (te := xUn (opIs .tuple) (xVar 8)) (env := [x0, x1, x2, x3, x4, x5, some (.ref i), x7, x8]) (j := 6) (s := 8) rfl hc (by omega) fun p _ => rfl
  have e3 := all_true (te := xAnd (xCallP f__law_whole (aCons (xBin opIx (xVar 8) (xC (.int 0))) (aNil))) (xCallP f__law_whole (aCons (xBin opIx (xVar 8) (xC (.int 1))) (aNil)))) (env := [x0, x1, x2, x3, x4, x5, some (.ref i), x7, x8]) (j := 6) (s := 8) rfl hc (by omega) fun p _ => rfl
  show sSeq _ _ _ _ = _
  rw [seq_nx ((if_f ((or_f e1).trans (not_b (k := true) (val_b e2)))).trans rfl)]
  show sSeq _ _ _ _ = _
  rw [seq_nx ((if_f (not_b (k := true) (val_b e3))).trans rfl)]
  refine drop_nx (app_ok (y := G.pairD (0, 99)) (var_at rfl) rfl hc (by unfold layD; rw [List.length_map]; omega)) |>.trans ?_
  unfold layD
  rw [List.map_append]
  rfl
/-- the layers of a net stand in cells from n on; the first k have one joint more -/
structure Cells (n k : Nat) (N : Net) (cs : Cs) : Prop where
  at_ : ∀ j xs, N[j]? = some xs → cs[n + j]? = some (layD (if j < k then xs ++ [(0, 99)] else xs))
theorem run_loop1 {x0 x1 x2 x3 x5 x6 x7 x8 : Option D} {cs : Cs} {n : Nat} {N : Net} (hN : ∀ xs ∈ N, xs.length ≤ 64) (hc : Cells n 0 N cs) :
    ∃ y6 cs', sFor (itSeq (xVar 4)) (.nm 6) b1 [x0, x1, x2, x3, some (.lst (refsN n N.length)), x5, x6, x7, x8] cs = .ok (.nx [x0, x1, x2, x3, some (.lst (refsN n N.length)), x5, y6, x7, x8]) cs' ∧ Cells n N.length N cs' := by
  obtain ⟨e', cs', h1, ⟨y6, rfl⟩, h2⟩ := for_inv (t := .nm 6) (b := b1) (env := [x0, x1, x2, x3, some (.lst (refsN n N.length)), x5, x6, x7, x8]) (fun k env cs => (∃ y6, env = [x0, x1, x2, x3, some (.lst (refsN n N.length)), x5, y6, x7, x8]) ∧ Cells n k N cs)
    (itSeq_ok (m := xVar 4) (d := .lst (refsN n N.length)) (xs := refsN n N.length) (var_at rfl) rfl) (fun _ _ _ _ => rfl) (fun k x env cs hx hI => by
      obtain ⟨⟨y6, rfl⟩, hC⟩ := hI
      obtain ⟨hk, rfl⟩ := refsN_get hx
      refine ⟨_, rfl, ?_⟩
      have hg : N[k]? = some N[k] := List.getElem?_eq_getElem hk
      have hck := hC.at_ k _ hg
      rw [if_neg (Nat.lt_irrefl k)] at hck
      refine ⟨_, _, run_b1 hck (hN _ (List.getElem_mem hk)), ⟨_, rfl⟩, ⟨fun j xs hj => ?_⟩⟩
      by_cases e : j = k
      · subst e
        rw [List.getElem?_set_self (List.getElem?_eq_some_iff.mp hck).1, if_pos (Nat.lt_succ_self _)]
        rw [hg] at hj
        cases hj
        rfl
      · rw [List.getElem?_set_ne (by omega), hC.at_ j xs hj]
        by_cases h : j < k
        · rw [if_pos h, if_pos (by omega)]
        · rw [if_neg h, if_neg (by omega)]) ⟨⟨x6, rfl⟩, hc⟩
  refine ⟨y6, cs', h1, ?_⟩
  have el : (refsN n N.length).length = N.length := by unfold refsN; rw [List.length_map, List.length_range]
  rw [el] at h2
  exact h2
theorem run_loop2 {x0 x1 x2 x3 x6 x7 x8 : Option D} {cs : Cs} {n : Nat} {N : Net} (hN : ∀ xs ∈ N, xs.length ≤ 64) (hc : Cells n N.length N cs) :
    ∃ y6 y7, sFor (itZip (xVar 4) (xVar 5)) (.tp [6, 7]) b2 [x0, x1, x2, x3, some (.lst (refsN n N.length)), some (netD N), x6, x7, x8] cs = .ok (.nx [x0, x1, x2, x3, some (.lst (refsN n N.length)), some (netD N), y6, y7, x8]) cs := by
  obtain ⟨e', cs', h1, ⟨⟨y6, y7, rfl⟩, rfl⟩⟩ := for_inv (t := .tp [6, 7]) (b := b2) (env := [x0, x1, x2, x3, some (.lst (refsN n N.length)), some (netD N), x6, x7, x8]) (cs := cs) (fun k env cs' => (∃ y6 y7, env = [x0, x1, x2, x3, some (.lst (refsN n N.length)), some (netD N), y6, y7, x8]) ∧ cs' = cs)
    (itZip_ok (m := xVar 4) (m' := xVar 5) (d := .lst (refsN n N.length)) (e := netD N) (xs := refsN n N.length) (ys := N.map fun xs => .lst (layD xs)) (var_at rfl) (var_at rfl) rfl rfl) (fun _ _ _ _ => rfl) (fun k x env cs' hx hI => by
      obtain ⟨⟨y6, y7, rfl⟩, rfl⟩ := hI
      rw [List.getElem?_map] at hx
      cases q : ((refsN n N.length).zip (N.map fun xs => D.lst (layD xs)))[k]? with
      | none =>
        rw [q] at hx
        cases hx
      | some p =>
        rw [q] at hx
        cases hx
        obtain ⟨p1, p2⟩ := p
        obtain ⟨q1, q2⟩ := List.getElem?_zip_eq_some.mp q
        obtain ⟨hk, e1⟩ := refsN_get q1
        rw [List.getElem?_map, List.getElem?_eq_getElem hk] at q2
        have e2 : D.lst (layD N[k]) = p2 := Option.some.inj q2
        dsimp only at e1 e2 ⊢
        subst e1 e2
        refine ⟨_, rfl, [x0, x1, x2, x3, some (.lst (refsN n N.length)), some (netD N), some (.ref (n + k)), some (.lst (layD N[k])), x8], cs', ?_, ⟨⟨_, _, rfl⟩, rfl⟩⟩
        have hck := hc.at_ k _ (List.getElem?_eq_getElem hk)
        rw [if_pos hk] at hck
        have hz : N[k].length ≤ 64 := hN _ (List.getElem_mem hk)
        have ea : (xBin (opAdd false) (xVar 7) (xLst false (aCons (xTup (aCons (xC (.int 0)) (aCons (xC (.int 99)) (aNil)))) (aNil)))) [x0, x1, x2, x3, some (.lst (refsN n N.length)), some (netD N), some (.ref (n + k)), some (.lst (layD N[k])), x8] cs' = .ok (.lst (layD (N[k] ++ [(0, 99)]))) cs' := by
          rw [bin_ok (var_at rfl) (show _ = Rs.ok (D.lst [G.pairD (0, 99)]) cs' from rfl)]
          show (if szOk ((layD N[k]).length + 1) = true then (Rs.ok (D.lst (layD N[k] ++ [G.pairD (0, 99)])) cs' : Rs D) else .no) = _
          rw [if_pos (show szOk ((layD N[k]).length + 1) = true from decide_eq_true (by unfold layD; rw [List.length_map]; omega))]
          unfold layD
          rw [List.map_append]
          rfl
        show b2 [x0, x1, x2, x3, some (.lst (refsN n N.length)), some (netD N), some (.ref (n + k)), some (.lst (layD N[k])), x8] cs' = _
        refine (if_f (val_b (k := false) ?_)).trans rfl
        rw [bin_ok (var_at rfl) ea, eq_lay (py_cell hck) (py_lay _ _)]
        rw [decide_eq_true rfl]
        rfl) ⟨⟨x6, x7, rfl⟩, rfl⟩
  exact ⟨y6, y7, h1⟩
/-- what the law knows of lines and the odd one -/
structure Fit (l : Int) (odd : D) (w : Int) (N : Net) : Prop where
  made : f__law_made [.int w, .int l] = .ok (N.map layD)
  due : f__law_due [.int w, .int l] = .ok (netD N)
  ref : f__law_refused [.int w, odd] = .ok (.bl true)
  len : ∀ xs ∈ N, xs.length ≤ 64
  nr : noR odd = true
theorem run_bW {x0 x4 x5 x6 x7 x8 : Option D} {l w : Int} {odd : D} {cs : Cs} {N : Net} (h : Fit l odd w N) :
    ∃ y4 y5 y6 y7 cs', bW [x0, some (.int l), some odd, some (.int w), x4, x5, x6, x7, x8] cs = .ok (.nx [x0, some (.int l), some odd, some (.int w), y4, y5, y6, y7, x8]) cs' := by
  have e1 : xCallO2 f__law_made (aCons (xVar 3) (aCons (xVar 1) (aNil))) [x0, some (.int l), some odd, some (.int w), x4, x5, x6, x7, x8] cs = .ok (.lst (refsN cs.length (N.map layD).length)) (cs ++ N.map layD) := callO2_ok (xs := [.int w, .int l]) rfl rfl h.made (all_noR N)
  rw [List.length_map] at e1
  have hC : Cells cs.length 0 N (cs ++ N.map layD) := ⟨fun j xs hj => by
    rw [List.getElem?_append_right (Nat.le_add_right _ _), Nat.add_sub_cancel_left, List.getElem?_map, hj]
    rfl⟩
  obtain ⟨z6, cs1, h1, hC1⟩ := run_loop1 (x0 := x0) (x1 := some (.int l)) (x2 := some odd) (x3 := some (.int w)) (x5 := some (netD N)) (x6 := x6) (x7 := x7) (x8 := x8) h.len hC
  obtain ⟨y6, y7, h2⟩ := run_loop2 (x0 := x0) (x1 := some (.int l)) (x2 := some odd) (x3 := some (.int w)) (x6 := z6) (x7 := x7) (x8 := x8) h.len hC1
  refine ⟨some (.lst (refsN cs.length N.length)), some (netD N), y6, y7, cs1, ?_⟩
  show sSeq _ _ _ _ = _
  rw [seq_nx (asg_nm e1)]
  show sSeq _ _ _ _ = _
  rw [seq_nx (asg_nm (d := netD N) (callP_ok (xs := [.int w, .int l]) rfl rfl h.due))]
  show sSeq _ _ [x0, some (.int l), some odd, some (.int w), some (.lst (refsN cs.length N.length)), some (netD N), x6, x7, x8] (cs ++ N.map layD) = _
  have e3 : bVal (xBin (opEq false) (xVar 4) (xVar 5)) [x0, some (.int l), some odd, some (.int w), some (.lst (refsN cs.length N.length)), some (netD N), x6, x7, x8] (cs ++ N.map layD) = .ok false (cs ++ N.map layD) := by
    refine val_b ?_
    rw [bin_ok (var_at rfl) (var_at rfl), eq_net (N := N) (M := N) ?_ (py_net _ N)]
    · rw [decide_eq_true rfl]
      rfl
    · rw [refsN_eq]
      refine py_cells (by rw [List.length_map, List.length_range]) fun j i xs hj hx => ?_
      rw [List.getElem?_map] at hj
      have hl : j < N.length := (List.getElem?_eq_some_iff.mp hx).1
      rw [List.getElem?_range hl] at hj
      cases hj
      exact hC.at_ j xs hx
  have e4 : bNot (bVal (xCallP f__law_refused (aCons (xVar 3) (aCons (xVar 2) (aNil))))) [x0, some (.int l), some odd, some (.int w), some (.lst (refsN cs.length N.length)), some (netD N), x6, x7, x8] (cs ++ N.map layD) = .ok false (cs ++ N.map layD) :=
    not_b (k := true) (val_b (callP_ok (xs := [.int w, odd]) rfl (by
      show (true && (noR odd && true)) = true
      rw [h.nr]
      rfl) h.ref))
  rw [seq_nx ((if_f (((or_f (show _ = Rs.ok false _ from rfl)).trans (or_f e3)).trans e4)).trans rfl)]
  show sSeq _ _ _ _ = _
  rw [seq_nx h1]
  show sSeq _ _ _ _ = _
  rw [seq_nx h2]
  refine (if_f (val_b (k := false) ?_)).trans rfl
  rw [bin_ok (callP_ok (xs := [.int w, .int l]) rfl rfl (asP_ok h.made)) (var_at rfl), eq_net (py_net _ N) (py_net _ N), decide_eq_true rfl]
  rfl
theorem run_loopW {x0 x3 x4 x5 x6 x7 x8 : Option D} {l : Int} {odd : D} (h : ∀ w : Nat, w < 4 → ∃ N, Fit l odd (w : Int) N) :
    ∃ e' cs', sFor (itR1 (xC (.int 4))) (.nm 3) bW [x0, some (.int l), some odd, x3, x4, x5, x6, x7, x8] [] = .ok (.nx e') cs' := by
  obtain ⟨e', cs', h1, _⟩ := for_inv (t := .nm 3) (b := bW) (env := [x0, some (.int l), some odd, x3, x4, x5, x6, x7, x8]) (cs := []) (fun k env cs => ∃ y3 y4 y5 y6 y7, env = [x0, some (.int l), some odd, y3, y4, y5, y6, y7, x8])
    (show itR1 (xC (.int 4)) _ [] = .ok ⟨rngD 0 4, fun _ => true⟩ [] from rfl) (fun _ _ _ _ => rfl) (fun k x env cs hx hI => by
      obtain ⟨y3, y4, y5, y6, y7, rfl⟩ := hI
      obtain ⟨hk, rfl⟩ := rngD_get hx
      rw [Int.zero_add]
      obtain ⟨N, hN⟩ := h k hk
      obtain ⟨z4, z5, z6, z7, cs2, h2⟩ := run_bW (x0 := x0) (x4 := y4) (x5 := y5) (x6 := y6) (x7 := y7) (x8 := x8) (cs := cs) hN
      exact ⟨_, rfl, _, _, h2, _, _, _, _, _, rfl⟩) ⟨x3, x4, x5, x6, x7, rfl⟩
  exact ⟨e', cs', h1⟩
theorem fit_of {l w : Int} {odd : D} (h1 : chk w l = true) (h2 : isT (f__law_refused [.int w, odd]) = true) (nr : noR odd = true) : ∃ N, Fit l odd w N := by
  unfold chk at h1
  split at h1
  · rename_i L M e1 e2
    obtain ⟨h3, h4⟩ := Bool.and_eq_true_iff.mp h1
    obtain ⟨h5, h6⟩ := Bool.and_eq_true_iff.mp h4
    obtain ⟨_, h7⟩ := Bool.and_eq_true_iff.mp h6
    obtain ⟨N, hN⟩ := Option.isSome_iff_exists.mp h5
    have eL := toNet_eq hN
    have eM := eqDL_eq h3
    subst eM
    subst eL
    refine ⟨N, e1, ?_, isT_eq h2, fun xs hx => ?_, nr⟩
    · rw [e2, List.map_map]
      rfl
    · have := of_decide_eq_true (List.all_eq_true.mp h7 (layD xs) (List.mem_map.mpr ⟨xs, hx, rfl⟩))
      unfold layD at this
      rwa [List.length_map] at this
  · cases h1
theorem law_true (ns : List Int) (h : ns.length ≤ 63) : f_law [.scr ns] = .ok (.bl true) := by
  obtain ⟨c0, h0⟩ := cellAt ns 0
  obtain ⟨c1, h1⟩ := cellAt ns 1
  have hA : bA [some (.scr ns), none, none, none, none, none, none, none, none] [] = .ok (.nx [some (.scr ns), some (.int (1 + c0 % 64)), none, none, none, none, none, none, none]) [] := by
    refine (asg_nm (d := .int (1 + c0 % 64)) (cs1 := []) ?_).trans rfl
    rw [bin_ok (x := .int 1) rfl ((bin_ok (callP_ok (xs := [.scr ns, .int ((0 : Nat) : Int)]) rfl rfl h0) (y := .int 64) rfl).trans (show _ = Rs.ok (D.int (c0 % 64)) [] from rfl))]
    rfl
  have hk : (c1 % 10).toNat < odds.length := by
    show (c1 % 10).toNat < 10
    omega
  have hB : bB [some (.scr ns), some (.int (1 + c0 % 64)), none, none, none, none, none, none, none] [] = .ok (.nx [some (.scr ns), some (.int (1 + c0 % 64)), some odds[(c1 % 10).toNat], none, none, none, none, none, none]) [] := by
    refine (asg_nm (d := odds[(c1 % 10).toNat]) (cs1 := []) ?_).trans rfl
    rw [bin_ok (x := .lst odds) (cs1 := []) rfl ((bin_ok (callP_ok (xs := [.scr ns, .int ((1 : Nat) : Int)]) rfl rfl h1) (y := .int 10) rfl).trans (show _ = Rs.ok (D.int (c1 % 10)) [] from rfl))]
    show M.ofO (atI odds (c1 % 10)) [] = _
    unfold atI ixN
    rw [if_pos (by omega), if_pos (by show c1 % 10 < ((10 : Nat) : Int); omega), Option.bind_some, List.getElem?_eq_getElem hk]
    rfl
  have el : 1 + c0 % 64 = Int.ofNat ((c0 % 64).toNat + 1) := by
    show _ = (((c0 % 64).toNat + 1 : Nat) : Int)
    omega
  have hck := ckAll (c0 % 64).toNat (by omega)
  rw [← el] at hck
  have hR := List.all_eq_true.mp ckR odds[(c1 % 10).toNat] (List.getElem_mem hk)
  have nr : noR odds[(c1 % 10).toNat] = true := List.all_eq_true.mp (show odds.all noR = true from rfl) _ (List.getElem_mem hk)
  obtain ⟨e', cs', hW⟩ := run_loopW (x0 := some (.scr ns)) (x3 := none) (x4 := none) (x5 := none) (x6 := none) (x7 := none) (x8 := none) (l := 1 + c0 % 64) (odd := odds[(c1 % 10).toNat]) fun w hw => by
    unfold chkl at hck
    unfold chkR at hR
    obtain ⟨a0, hck⟩ := Bool.and_eq_true_iff.mp hck
    obtain ⟨a1, hck⟩ := Bool.and_eq_true_iff.mp hck
    obtain ⟨a2, a3⟩ := Bool.and_eq_true_iff.mp hck
    obtain ⟨r0, hR⟩ := Bool.and_eq_true_iff.mp hR
    obtain ⟨r1, hR⟩ := Bool.and_eq_true_iff.mp hR
    obtain ⟨r2, r3⟩ := Bool.and_eq_true_iff.mp hR
    match w, hw with
    | 0, _ => exact fit_of a0 r0 nr
    | 1, _ => exact fit_of a1 r1 nr
    | 2, _ => exact fit_of a2 r2 nr
    | 3, _ => exact fit_of a3 r3 nr
  refine runP_rt (d := .bl true) (cs := cs') ?_ rfl
  show c_law [some (.scr ns), none, none, none, none, none, none, none, none] [] = _
  rw [c_law_eq]
  show sSeq _ _ _ _ = _
  rw [seq_nx hA]
  show sSeq _ _ _ _ = _
  rw [seq_nx hB]
  show sSeq _ _ _ _ = _
  rw [seq_nx hW]
  rfl
end LK
namespace LK
open L2 G PySem PySem.Spec PyProof.Rows
section
def dd_is_whole : He.DefD := ⟨("is_whole", none), "is_whole", "is_whole", defArgs s_is_whole, defBody s_is_whole, defScope s_is_whole, [], []⟩
def dd_is_among : He.DefD := ⟨("is_among", none), "is_among", "is_among", defArgs s_is_among, defBody s_is_among, defScope s_is_among, [], []⟩
def dd_need_lines : He.DefD := ⟨("need_lines", none), "need_lines", "need_lines", defArgs s_need_lines, defBody s_need_lines, defScope s_need_lines, [], []⟩
def dd_moved_up : He.DefD := ⟨("moved_up", none), "moved_up", "moved_up", defArgs s_moved_up, defBody s_moved_up, defScope s_moved_up, [], []⟩
def dd_side_by_side : He.DefD := ⟨("side_by_side", none), "side_by_side", "side_by_side", defArgs s_side_by_side, defBody s_side_by_side, defScope s_side_by_side, [], []⟩
def dd_put_behind : He.DefD := ⟨("put_behind", none), "put_behind", "put_behind", defArgs s_put_behind, defBody s_put_behind, defScope s_put_behind, [], []⟩
def dd_pairs_around : He.DefD := ⟨("pairs_around", none), "pairs_around", "pairs_around", defArgs s_pairs_around, defBody s_pairs_around, defScope s_pairs_around, [], []⟩
def dd_one_by_one : He.DefD := ⟨("one_by_one", none), "one_by_one", "one_by_one", defArgs s_one_by_one, defBody s_one_by_one, defScope s_one_by_one, [], []⟩
def dd_doubled : He.DefD := ⟨("doubled", none), "doubled", "doubled", defArgs s_doubled, defBody s_doubled, defScope s_doubled, [], []⟩
def dd_halves_net : He.DefD := ⟨("halves_net", none), "halves_net", "halves_net", defArgs s_halves_net, defBody s_halves_net, defScope s_halves_net, [], []⟩
def dd_by_halves : He.DefD := ⟨("by_halves", none), "by_halves", "by_halves", defArgs s_by_halves, defBody s_by_halves, defScope s_by_halves, [], []⟩
def dd_pairs_net : He.DefD := ⟨("pairs_net", none), "pairs_net", "pairs_net", defArgs s_pairs_net, defBody s_pairs_net, defScope s_pairs_net, [], []⟩
def dd_by_pairs : He.DefD := ⟨("by_pairs", none), "by_pairs", "by_pairs", defArgs s_by_pairs, defBody s_by_pairs, defScope s_by_pairs, [], []⟩
def dd__law_cell_at : He.DefD := ⟨("_law_cell_at", none), "_law_cell_at", "_law_cell_at", defArgs s__law_cell_at, defBody s__law_cell_at, defScope s__law_cell_at, [], []⟩
def dd__law_whole : He.DefD := ⟨("_law_whole", none), "_law_whole", "_law_whole", defArgs s__law_whole, defBody s__law_whole, defScope s__law_whole, [], []⟩
def dd__law_made : He.DefD := ⟨("_law_made", none), "_law_made", "_law_made", defArgs s__law_made, defBody s__law_made, defScope s__law_made, [], []⟩
def dd__law_deep : He.DefD := ⟨("_law_deep", none), "_law_deep", "_law_deep", defArgs s__law_deep, defBody s__law_deep, defScope s__law_deep, [], []⟩
def dd__law_halves : He.DefD := ⟨("_law_halves", none), "_law_halves", "_law_halves", defArgs s__law_halves, defBody s__law_halves, defScope s__law_halves, [], []⟩
def dd__law_pairs : He.DefD := ⟨("_law_pairs", none), "_law_pairs", "_law_pairs", defArgs s__law_pairs, defBody s__law_pairs, defScope s__law_pairs, [], []⟩
def dd__law_due : He.DefD := ⟨("_law_due", none), "_law_due", "_law_due", defArgs s__law_due, defBody s__law_due, defScope s__law_due, [], []⟩
def dd__law_refused : He.DefD := ⟨("_law_refused", none), "_law_refused", "_law_refused", defArgs s__law_refused, defBody s__law_refused, defScope s__law_refused, [], []⟩
def dd_law : He.DefD := ⟨("law", none), "law", "law", defArgs s_law, defBody s_law, defScope s_law, [], []⟩
def fn0 : List He.DefD := [dd_is_whole, dd_is_among, dd_need_lines, dd_moved_up, dd_side_by_side, dd_put_behind, dd_pairs_around, dd_one_by_one, dd_doubled, dd_halves_net, dd_by_halves, dd_pairs_net, dd_by_pairs, dd__law_cell_at, dd__law_whole, dd__law_made, dd__law_deep, dd__law_halves, dd__law_pairs, dd__law_due, dd__law_refused, dd_law]
def fn : List He.DefD := fn0
def fa0 : List He.Fa := [.glo "is_whole", .glo "is_among", .glo "need_lines", .glo "moved_up", .glo "side_by_side", .glo "put_behind", .glo "pairs_around", .glo "one_by_one", .glo "doubled", .glo "halves_net", .glo "by_halves", .glo "pairs_net", .glo "by_pairs", .glo "_law_cell_at", .glo "_law_whole", .glo "_law_made", .glo "_law_deep", .glo "_law_halves", .glo "_law_pairs", .glo "_law_due", .glo "_law_refused", .glo "law", .glo "BadLines", .exc "BadLines", .glo "BadThing"]
def fa1 : List He.Fa := [.exc "BadThing", .glo "BadKind", .exc "BadKind", .glo "NoNet", .exc "NoNet", .glo "NetError", .glo "BadNet", .free "len", .free "isinstance", .free "range", .free "int", .free "bool", .free "str", .free "tuple", .free "list", .free "max", .free "min", .free "sum", .free "all", .free "sorted", .free "reversed", .free "zip", .free "abs", .free "ValueError", .int "MOST_LINES" 64]
def fa : List He.Fa := fa0 ++ fa1
abbrev R : PySem.W.OpenRow := PySem.W.OpenLaw.row PySem.Challenge.rw_beginnet_k05_four_nets
abbrev hk : PySem.W.Hook := hookX 5 fa fn xtB
def ob (s : PySem.W.SharedT) : AlX := obsXG 5 fa fn xtB (HandSHeadRun.getT s)
theorem ob_eq (s : PySem.W.SharedT) : ob s = hk.obs s.abs := obsXG_eq (HandSHeadRun.getT_eq s)
def loose0 : List PySem.Str := ["NetError", "BadNet", "BadLines", "BadThing", "BadKind", "NoNet", "is_whole", "is_among", "MOST_LINES", "need_lines", "moved_up", "side_by_side", "put_behind", "pairs_around", "one_by_one", "doubled", "halves_net", "by_halves", "pairs_net", "by_pairs", "_law_cell_at", "_law_whole", "_law_made", "_law_deep", "_law_halves"]
def loose1 : List PySem.Str := ["_law_pairs", "_law_due", "_law_refused"]
def loose : List PySem.Str := loose0 ++ loose1
theorem run (w : World) : HandSHeadRun.RunEq R (PySem.W.view R.prog [33]) hk ob 4000 loose w := by
  intro os
  kernel_rfl
theorem bt_of {K : PySem.W.Frag} {h : Heap} {mg : Str → Option Value} (X : K.In h) (Gn : h.Ns mainGlobals mg) (c : He.SaysD fa fn K) : Bt K mg (ctOf K) where
  len := He.free_ok X Gn (c.fact 32 (f := .free "len") rfl)
  isinstance := He.free_ok X Gn (c.fact 33 (f := .free "isinstance") rfl)
  range := He.free_ok X Gn (c.fact 34 (f := .free "range") rfl)
  int := He.free_ok X Gn (c.fact 35 (f := .free "int") rfl)
  bool := He.free_ok X Gn (c.fact 36 (f := .free "bool") rfl)
  str := He.free_ok X Gn (c.fact 37 (f := .free "str") rfl)
  tuple := He.free_ok X Gn (c.fact 38 (f := .free "tuple") rfl)
  list := He.free_ok X Gn (c.fact 39 (f := .free "list") rfl)
  max := He.free_ok X Gn (c.fact 40 (f := .free "max") rfl)
  min := He.free_ok X Gn (c.fact 41 (f := .free "min") rfl)
  sum := He.free_ok X Gn (c.fact 42 (f := .free "sum") rfl)
  all := He.free_ok X Gn (c.fact 43 (f := .free "all") rfl)
  sorted := He.free_ok X Gn (c.fact 44 (f := .free "sorted") rfl)
  reversed := He.free_ok X Gn (c.fact 45 (f := .free "reversed") rfl)
  zip := He.free_ok X Gn (c.fact 46 (f := .free "zip") rfl)
  abs := He.free_ok X Gn (c.fact 47 (f := .free "abs") rfl)
  x_lines := by
    obtain ⟨e1, e2, e3, e4⟩ := He.exc_ok (c.fact 23 (f := .exc "BadLines") rfl)
    exact ⟨e1, He.glo_ok X Gn (c.fact 22 (f := .glo "BadLines") rfl), e2, e3, e4⟩
  x_thing := by
    obtain ⟨e1, e2, e3, e4⟩ := He.exc_ok (c.fact 25 (f := .exc "BadThing") rfl)
    exact ⟨e1, He.glo_ok X Gn (c.fact 24 (f := .glo "BadThing") rfl), e2, e3, e4⟩
  x_kind := by
    obtain ⟨e1, e2, e3, e4⟩ := He.exc_ok (c.fact 27 (f := .exc "BadKind") rfl)
    exact ⟨e1, He.glo_ok X Gn (c.fact 26 (f := .glo "BadKind") rfl), e2, e3, e4⟩
  x_nonet := by
    obtain ⟨e1, e2, e3, e4⟩ := He.exc_ok (c.fact 29 (f := .exc "NoNet") rfl)
    exact ⟨e1, He.glo_ok X Gn (c.fact 28 (f := .glo "NoNet") rfl), e2, e3, e4⟩
  c_MOST_LINES := He.int_ok X Gn (c.fact 49 (f := .int "MOST_LINES" 64) rfl)
theorem facts {P : Program} {w : World} {K : PySem.W.Frag} {h : Heap} {mg : Str → Option Value} {f : Addr} (X : K.In h) (Gn : h.Ns mainGlobals mg) (hfa : mg ("law" : Str) = some (.ref f)) (c : He.SaysD fa fn K) (cx : xtB K = true) :
    ∃ fd : FuncData, (∀ (s : Shared) (v : Value), BindsTo s fd ⟨[v], []⟩ [("_law_script", v)]) ∧ ∀ base : Heap, K.In base → base.Ns mainGlobals mg → FnOk P w K mg base (L2.CX P w) 16 f fd ["_law_script"] (spP K (ctOf K) 1 f_law) := by
  have B := bt_of X Gn c
  have T := xtB_ok X Gn (c.fact 30 (f := .glo "NetError") rfl) (c.fact 31 (f := .glo "BadNet") rfl) (c.fact 48 (f := .free "ValueError") rfl) cx
  obtain ⟨fd_is_whole, F_is_whole⟩ := c.def_ 0 (d := dd_is_whole) rfl
  have E_is_whole : ∃ fa fd, mg "is_whole" = some (.ref fa) ∧ FunG K "is_whole" s_is_whole fa fd := ⟨_, fd_is_whole, He.glo_ok X Gn (c.fact 0 (f := .glo "is_whole") rfl), F_is_whole⟩
  obtain ⟨fd_is_among, F_is_among⟩ := c.def_ 1 (d := dd_is_among) rfl
  have E_is_among : ∃ fa fd, mg "is_among" = some (.ref fa) ∧ FunG K "is_among" s_is_among fa fd := ⟨_, fd_is_among, He.glo_ok X Gn (c.fact 1 (f := .glo "is_among") rfl), F_is_among⟩
  obtain ⟨fd_need_lines, F_need_lines⟩ := c.def_ 2 (d := dd_need_lines) rfl
  have E_need_lines : ∃ fa fd, mg "need_lines" = some (.ref fa) ∧ FunG K "need_lines" s_need_lines fa fd := ⟨_, fd_need_lines, He.glo_ok X Gn (c.fact 2 (f := .glo "need_lines") rfl), F_need_lines⟩
  obtain ⟨fd_moved_up, F_moved_up⟩ := c.def_ 3 (d := dd_moved_up) rfl
  have E_moved_up : ∃ fa fd, mg "moved_up" = some (.ref fa) ∧ FunG K "moved_up" s_moved_up fa fd := ⟨_, fd_moved_up, He.glo_ok X Gn (c.fact 3 (f := .glo "moved_up") rfl), F_moved_up⟩
  obtain ⟨fd_side_by_side, F_side_by_side⟩ := c.def_ 4 (d := dd_side_by_side) rfl
  have E_side_by_side : ∃ fa fd, mg "side_by_side" = some (.ref fa) ∧ FunG K "side_by_side" s_side_by_side fa fd := ⟨_, fd_side_by_side, He.glo_ok X Gn (c.fact 4 (f := .glo "side_by_side") rfl), F_side_by_side⟩
  obtain ⟨fd_put_behind, F_put_behind⟩ := c.def_ 5 (d := dd_put_behind) rfl
  have E_put_behind : ∃ fa fd, mg "put_behind" = some (.ref fa) ∧ FunG K "put_behind" s_put_behind fa fd := ⟨_, fd_put_behind, He.glo_ok X Gn (c.fact 5 (f := .glo "put_behind") rfl), F_put_behind⟩
  obtain ⟨fd_pairs_around, F_pairs_around⟩ := c.def_ 6 (d := dd_pairs_around) rfl
  have E_pairs_around : ∃ fa fd, mg "pairs_around" = some (.ref fa) ∧ FunG K "pairs_around" s_pairs_around fa fd := ⟨_, fd_pairs_around, He.glo_ok X Gn (c.fact 6 (f := .glo "pairs_around") rfl), F_pairs_around⟩
  obtain ⟨fd_one_by_one, F_one_by_one⟩ := c.def_ 7 (d := dd_one_by_one) rfl
  have E_one_by_one : ∃ fa fd, mg "one_by_one" = some (.ref fa) ∧ FunG K "one_by_one" s_one_by_one fa fd := ⟨_, fd_one_by_one, He.glo_ok X Gn (c.fact 7 (f := .glo "one_by_one") rfl), F_one_by_one⟩
  obtain ⟨fd_doubled, F_doubled⟩ := c.def_ 8 (d := dd_doubled) rfl
  have E_doubled : ∃ fa fd, mg "doubled" = some (.ref fa) ∧ FunG K "doubled" s_doubled fa fd := ⟨_, fd_doubled, He.glo_ok X Gn (c.fact 8 (f := .glo "doubled") rfl), F_doubled⟩
  obtain ⟨fd_halves_net, F_halves_net⟩ := c.def_ 9 (d := dd_halves_net) rfl
  have E_halves_net : ∃ fa fd, mg "halves_net" = some (.ref fa) ∧ FunG K "halves_net" s_halves_net fa fd := ⟨_, fd_halves_net, He.glo_ok X Gn (c.fact 9 (f := .glo "halves_net") rfl), F_halves_net⟩
  obtain ⟨fd_by_halves, F_by_halves⟩ := c.def_ 10 (d := dd_by_halves) rfl
  have E_by_halves : ∃ fa fd, mg "by_halves" = some (.ref fa) ∧ FunG K "by_halves" s_by_halves fa fd := ⟨_, fd_by_halves, He.glo_ok X Gn (c.fact 10 (f := .glo "by_halves") rfl), F_by_halves⟩
  obtain ⟨fd_pairs_net, F_pairs_net⟩ := c.def_ 11 (d := dd_pairs_net) rfl
  have E_pairs_net : ∃ fa fd, mg "pairs_net" = some (.ref fa) ∧ FunG K "pairs_net" s_pairs_net fa fd := ⟨_, fd_pairs_net, He.glo_ok X Gn (c.fact 11 (f := .glo "pairs_net") rfl), F_pairs_net⟩
  obtain ⟨fd_by_pairs, F_by_pairs⟩ := c.def_ 12 (d := dd_by_pairs) rfl
  have E_by_pairs : ∃ fa fd, mg "by_pairs" = some (.ref fa) ∧ FunG K "by_pairs" s_by_pairs fa fd := ⟨_, fd_by_pairs, He.glo_ok X Gn (c.fact 12 (f := .glo "by_pairs") rfl), F_by_pairs⟩
  obtain ⟨fd__law_cell_at, F__law_cell_at⟩ := c.def_ 13 (d := dd__law_cell_at) rfl
  have E__law_cell_at : ∃ fa fd, mg "_law_cell_at" = some (.ref fa) ∧ FunG K "_law_cell_at" s__law_cell_at fa fd := ⟨_, fd__law_cell_at, He.glo_ok X Gn (c.fact 13 (f := .glo "_law_cell_at") rfl), F__law_cell_at⟩
  obtain ⟨fd__law_whole, F__law_whole⟩ := c.def_ 14 (d := dd__law_whole) rfl
  have E__law_whole : ∃ fa fd, mg "_law_whole" = some (.ref fa) ∧ FunG K "_law_whole" s__law_whole fa fd := ⟨_, fd__law_whole, He.glo_ok X Gn (c.fact 14 (f := .glo "_law_whole") rfl), F__law_whole⟩
  obtain ⟨fd__law_made, F__law_made⟩ := c.def_ 15 (d := dd__law_made) rfl
  have E__law_made : ∃ fa fd, mg "_law_made" = some (.ref fa) ∧ FunG K "_law_made" s__law_made fa fd := ⟨_, fd__law_made, He.glo_ok X Gn (c.fact 15 (f := .glo "_law_made") rfl), F__law_made⟩
  obtain ⟨fd__law_deep, F__law_deep⟩ := c.def_ 16 (d := dd__law_deep) rfl
  have E__law_deep : ∃ fa fd, mg "_law_deep" = some (.ref fa) ∧ FunG K "_law_deep" s__law_deep fa fd := ⟨_, fd__law_deep, He.glo_ok X Gn (c.fact 16 (f := .glo "_law_deep") rfl), F__law_deep⟩
  obtain ⟨fd__law_halves, F__law_halves⟩ := c.def_ 17 (d := dd__law_halves) rfl
  have E__law_halves : ∃ fa fd, mg "_law_halves" = some (.ref fa) ∧ FunG K "_law_halves" s__law_halves fa fd := ⟨_, fd__law_halves, He.glo_ok X Gn (c.fact 17 (f := .glo "_law_halves") rfl), F__law_halves⟩
  obtain ⟨fd__law_pairs, F__law_pairs⟩ := c.def_ 18 (d := dd__law_pairs) rfl
  have E__law_pairs : ∃ fa fd, mg "_law_pairs" = some (.ref fa) ∧ FunG K "_law_pairs" s__law_pairs fa fd := ⟨_, fd__law_pairs, He.glo_ok X Gn (c.fact 18 (f := .glo "_law_pairs") rfl), F__law_pairs⟩
  obtain ⟨fd__law_due, F__law_due⟩ := c.def_ 19 (d := dd__law_due) rfl
  have E__law_due : ∃ fa fd, mg "_law_due" = some (.ref fa) ∧ FunG K "_law_due" s__law_due fa fd := ⟨_, fd__law_due, He.glo_ok X Gn (c.fact 19 (f := .glo "_law_due") rfl), F__law_due⟩
  obtain ⟨fd__law_refused, F__law_refused⟩ := c.def_ 20 (d := dd__law_refused) rfl
  have E__law_refused : ∃ fa fd, mg "_law_refused" = some (.ref fa) ∧ FunG K "_law_refused" s__law_refused fa fd := ⟨_, fd__law_refused, He.glo_ok X Gn (c.fact 20 (f := .glo "_law_refused") rfl), F__law_refused⟩
  obtain ⟨fd_law, F_law⟩ := c.def_ 21 (d := dd_law) rfl
  have E_law : ∃ fa fd, mg "law" = some (.ref fa) ∧ FunG K "law" s_law fa fd := ⟨_, fd_law, He.glo_ok X Gn (c.fact 21 (f := .glo "law") rfl), F_law⟩
  have e := hfa.symm.trans (He.glo_ok X Gn (c.fact 21 (f := .glo "law") rfl))
  cases e
  have b := FunD.bindsA (ps := ["_law_script"]) F_law fun _ _ _ _ _ _ us hl => match us, hl with | [_], _ => rfl
  refine ⟨fd_law, fun s v => b s [v] rfl, fun base _ _ => ?_⟩
  have H_is_whole := d_is_whole (P := P) (w := w) (base := base) E_is_whole B T ⟨trivial⟩
  have H_moved_up := d_moved_up (P := P) (w := w) (base := base) E_moved_up B T ⟨trivial⟩
  have H_side_by_side := d_side_by_side (P := P) (w := w) (base := base) E_side_by_side B T ⟨trivial⟩
  have H_pairs_around := d_pairs_around (P := P) (w := w) (base := base) E_pairs_around B T ⟨trivial⟩
  have H__law_cell_at := d__law_cell_at (P := P) (w := w) (base := base) E__law_cell_at B T ⟨trivial⟩
  have H__law_whole := d__law_whole (P := P) (w := w) (base := base) E__law_whole B T ⟨trivial⟩
  have H__law_deep := d__law_deep (P := P) (w := w) (base := base) E__law_deep B T ⟨trivial⟩
  have H__law_pairs := d__law_pairs (P := P) (w := w) (base := base) E__law_pairs B T ⟨trivial⟩
  have H_is_among := d_is_among (P := P) (w := w) (base := base) E_is_among B T ⟨H_is_whole, trivial⟩
  have H_put_behind := d_put_behind (P := P) (w := w) (base := base) E_put_behind B T ⟨H_moved_up, H_side_by_side, trivial⟩
  have H__law_halves := d__law_halves (P := P) (w := w) (base := base) E__law_halves B T ⟨H__law_deep, trivial⟩
  have H_need_lines := d_need_lines (P := P) (w := w) (base := base) E_need_lines B T ⟨H_is_among, trivial⟩
  have H__law_due := d__law_due (P := P) (w := w) (base := base) E__law_due B T ⟨H__law_halves, H__law_pairs, trivial⟩
  have H_one_by_one := d_one_by_one (P := P) (w := w) (base := base) E_one_by_one B T ⟨H_need_lines, trivial⟩
  have H_doubled := d_doubled (P := P) (w := w) (base := base) E_doubled B T ⟨H_need_lines, trivial⟩
  have H_pairs_net := d_pairs_net (P := P) (w := w) (base := base) E_pairs_net B T ⟨H_pairs_around, trivial⟩
  have H_halves_net := d_halves_net (P := P) (w := w) (base := base) E_halves_net B T ⟨H_put_behind, trivial⟩
  have H_by_pairs := d_by_pairs (P := P) (w := w) (base := base) E_by_pairs B T ⟨H_need_lines, H_pairs_net, trivial⟩
  have H_by_halves := d_by_halves (P := P) (w := w) (base := base) E_by_halves B T ⟨H_need_lines, H_halves_net, trivial⟩
  have H__law_made := d__law_made (P := P) (w := w) (base := base) E__law_made B T ⟨H_one_by_one, H_doubled, H_by_halves, H_by_pairs, trivial⟩
  have H__law_refused := d__law_refused (P := P) (w := w) (base := base) E__law_refused B T ⟨H__law_made, trivial⟩
  exact d_law F_law B T ⟨H__law_cell_at, H__law_made, H__law_due, H__law_refused, H__law_whole, trivial⟩
end
end LK
open PyProof.Rows PySem PySem.W PySem.Calls
theorem PySem.Challenge.cw_beginnet_k05_four_nets_holds : PySem.Challenge.rw_beginnet_k05_four_nets.Holds := by
  w_on; o_law
  refine HandSHeadRun.head_any (r := OpenLaw.row PySem.Challenge.rw_beginnet_k05_four_nets) (q := view (OpenLaw.row PySem.Challenge.rw_beginnet_k05_four_nets).prog [33]) (H := LK.hk) (ob := LK.ob) (M := 4000) (loose := LK.loose) (d := HandSHeadRun.topDef (OpenLaw.row PySem.Challenge.rw_beginnet_k05_four_nets).prog 33) (kwd := []) LK.ob_eq
    (by kernel_rfl) (fun s => by kernel_rfl) LK.run (by kernel_rfl) (by kernel_rfl) (by kernel_rfl) (by rfl) (by first | assumption | decide +kernel) (by decide +kernel) ⟨rfl, rfl, rfl, rfl, rfl, by decide +kernel⟩ ?hw ?hc
  case hw => w_witness2
  case hc =>
    refine G.walk_own (l := PySem.Challenge.rw_beginnet_k05_four_nets) (n := 63) (k := 16) (x := "_law_script") rfl (by decide) (by kernel_rfl) ⟨rfl, by decide, by decide⟩ ?F
    intro w mg fa h Y Gn hmg0
    obtain ⟨K, KX, c, cx⟩ := Y
    have hmg : mg ("law" : PySem.Str) = some (.ref fa) := by
      have e : (HandSHeadRun.topDef (OpenLaw.row PySem.Challenge.rw_beginnet_k05_four_nets).prog 33).name = ("law" : PySem.Str) := by kernel_rfl
      rw [← e]
      exact hmg0
    obtain ⟨fd, hb, hF⟩ := LK.facts (P := (PySem.Challenge.rw_beginnet_k05_four_nets).prog) (w := w) KX Gn hmg c cx
    exact ⟨K, fd, G.ctOf K, LK.f_law, KX, hb, fun ns hl => LK.law_true ns hl, hF⟩
