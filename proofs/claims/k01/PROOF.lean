import PyProof.Rows.All
import Wide.All
import OpenK.AllK
import Wide.FinOn
import HandS.ForMost
import HandS.Exc
import HandS.TryOnly
import HandS.ExcOwn
import HandS.WordsExc
import HandS.IsInst
import HandS.Style
import HandS.TupMul
import HandS.TupAny
import HandS.SortRule
import HandS.Rev
import HandS.RevRange
import HandS.Zip
import HandS.Conv
import HandS.SetFor
import HandS.Defaults
import HandS.HeadHook1
import HandS.HeadHook2
import HandS.Head0
import HandS.Head1
import HandS.Head2
import HandS.HeadEnd
import HandS.Ends
import HandS.HotCalls
import HandS.ExcIs
import HandS.ExcField
import HandS.ExcInit
import HandS.EndBits
import HandS.Dict
import KE.KStateDown
import Lean
import HandS.More
import HandS.Words
import PySem.Challenge.RW_beginnet_k01_joining
set_option Elab.async false
set_option linter.all false
set_option maxRecDepth 1000000
set_option maxHeartbeats 0
/-! G0: own data, cells, results; how they stand to the layer's values and heaps; canonical readings. -/
namespace G
open L2 PySem PySem.Spec PyProof.Rows
/-! ### data -/
inductive D where
  | non | bl (b : Bool) | int (i : Int) | str (s : Str) | tup (xs : List D) | lst (xs : List D) | ref (i : Nat) | dic | scr (ns : List Int)
instance : Inhabited D := ⟨.non⟩
abbrev En := List (Option D)
abbrev Cs := List (List D)
inductive Exn where
  | lines | thing | kind | nonet | net (at_ : Option Int)
inductive Rs (α : Type) where
  | ok (a : α) (cs : Cs) | ex (e : Exn) (cs : Cs) | no
abbrev M (α : Type) := Cs → Rs α
namespace M
def ret {α : Type} (a : α) : M α := fun cs => .ok a cs
def bnd {α β : Type} (m : M α) (k : α → M β) : M β := fun cs => match m cs with
  | .ok a cs' => k a cs'
  | .ex e cs' => .ex e cs'
  | .no => .no
def no {α : Type} : M α := fun _ => .no
def thr {α : Type} (e : Exn) : M α := fun cs => .ex e cs
def ofO {α : Type} : Option α → M α
  | some a => ret a
  | none => no
theorem bnd_ok {α β : Type} {m : M α} {k : α → M β} {cs cs' : Cs} {a : α} (h : m cs = .ok a cs') : bnd m k cs = k a cs' := by
  unfold bnd
  rw [h]
theorem bnd_ex {α β : Type} {m : M α} {k : α → M β} {cs cs' : Cs} {e : Exn} (h : m cs = .ex e cs') : bnd m k cs = .ex e cs' := by
  unfold bnd
  rw [h]
@[simp] theorem ret_bnd {α β : Type} (a : α) (k : α → M β) : bnd (ret a) k = k a := rfl
@[simp] theorem no_bnd {α β : Type} (k : α → M β) : bnd (no : M α) k = no := rfl
@[simp] theorem thr_bnd {α β : Type} (e : Exn) (k : α → M β) : bnd (thr e : M α) k = thr e := rfl
@[simp] theorem bnd_ret {α : Type} (m : M α) : bnd m ret = m := by
  funext cs
  unfold bnd ret
  cases m cs <;> rfl
@[simp] theorem bnd_bnd {α β γ : Type} (m : M α) (k : α → M β) (l : β → M γ) : bnd (bnd m k) l = bnd m fun a => bnd (k a) l := by
  funext cs
  unfold bnd
  cases m cs <;> rfl
@[simp] theorem ofO_some {α : Type} (a : α) : ofO (some a) = ret a := rfl
@[simp] theorem ofO_none {α : Type} : ofO (none : Option α) = no := rfl
end M
/-! ### heaps -/
def Ext (H H' : Hp) : Prop := ∀ a o, H a = some o → H' a = some o
theorem Ext.refl (H : Hp) : Ext H H := fun _ _ h => h
theorem Ext.trans {H H1 H2 : Hp} (a : Ext H H1) (b : Ext H1 H2) : Ext H H2 := fun x o h => b x o (a x o h)
theorem Ext.new {H : Hp} {p : Addr} {o : HO} (h : H p = none) : Ext H (upd H p o) := fun a u e => by
  rw [upd_ne (ne_of_none e h)]
  exact e
theorem Ext.upd2 {F H : Hp} {p : Addr} {o : HO} (e : Ext F H) : Ext (upd F p o) (upd H p o) := fun a u h => by
  by_cases q : a = p
  · subst q
    rw [upd_same] at h ⊢
    exact h
  · rw [upd_ne q] at h ⊢
    exact e a u h
theorem Ext.mut {F H : Hp} {p : Addr} {o : HO} (e : Ext F H) (h : F p = none) : Ext F (upd H p o) := fun a u ha => by
  rw [upd_ne (ne_of_none ha h)]
  exact e a u ha
theorem Ext.none {H H' : Hp} {p : Addr} (e : Ext H H') (h : H' p = Option.none) : H p = Option.none := by
  cases h1 : H p with
  | none => rfl
  | some o =>
    rw [e p o h1] at h
    cases h
theorem ext_rd {H H' : Hp} {a : Addr} {u : HO} (e : Ext H H') (h : Rd H a u) : Rd H' a u := by
  rcases h with h | ⟨o, h⟩
  · exact .inl (e a _ h)
  · exact .inr ⟨o, e a _ h⟩
theorem ext_t {K : PySem.W.Frag} {H H' : Hp} {a : Addr} {xs : List V} (e : Ext H H') (h : SqT K H a xs) : SqT K H' a xs := by
  rcases h with h | h
  · exact .inl (ext_rd e h)
  · exact .inr h
theorem ext_l {K : PySem.W.Frag} {H H' : Hp} {a : Addr} {xs : List V} (e : Ext H H') (h : SqL K H a xs) : SqL K H' a xs := by
  rcases h with h | h
  · exact .inl (ext_rd e h)
  · exact .inr h
/-! ### a value stands for a datum: F what is frozen, as the cells' places -/
mutual
inductive Dv (K : PySem.W.Frag) (F : Hp) (as : List Addr) : V → D → Prop
  | non : Dv K F as .non .non
  | bl (b : Bool) : Dv K F as (.bl b) (.bl b)
  | int (i : Int) : Dv K F as (.int i) (.int i)
  | str (x : Str) : Dv K F as (.str x) (.str x)
  | tup {a : Addr} {xs : List V} {ds : List D} : F a = some (.tup xs) → DvL K F as xs ds → Dv K F as (.ref a) (.tup ds)
  | lst {a : Addr} {xs : List V} {ds : List D} : F a = some (.lst xs) → DvL K F as xs ds → Dv K F as (.ref a) (.lst ds)
  | ref {a : Addr} {i : Nat} : as[i]? = some a → Dv K F as (.ref a) (.ref i)
  | dic {a : Addr} : F a = some (.dK []) → Dv K F as (.ref a) .dic
  | scr {a : Addr} {ns : List Int} : SqL K F a (ns.map V.int) → Dv K F as (.ref a) (.scr ns)
inductive DvL (K : PySem.W.Frag) (F : Hp) (as : List Addr) : List V → List D → Prop
  | nil : DvL K F as [] []
  | cons {v : V} {vs : List V} {d : D} {ds : List D} : Dv K F as v d → DvL K F as vs ds → DvL K F as (v :: vs) (d :: ds)
end
section
variable {K : PySem.W.Frag} {F F' H H' : Hp} {as as' : List Addr}
theorem pre_get {α : Type} {as as' : List α} (h : as <+: as') {i : Nat} {a : α} (e : as[i]? = some a) : as'[i]? = some a := by
  obtain ⟨t, rfl⟩ := h
  rw [List.getElem?_append_left (List.getElem?_eq_some_iff.mp e).1]
  exact e
mutual
theorem Dv.mono (e : Ext F F') (p : as <+: as') : ∀ {v : V} {d : D}, Dv K F as v d → Dv K F' as' v d
  | _, _, .non => .non
  | _, _, .bl b => .bl b
  | _, _, .int i => .int i
  | _, _, .str x => .str x
  | _, _, .tup h l => .tup (e _ _ h) (DvL.mono e p l)
  | _, _, .lst h l => .lst (e _ _ h) (DvL.mono e p l)
  | _, _, .ref h => .ref (pre_get p h)
  | _, _, .dic h => .dic (e _ _ h)
  | _, _, .scr h => .scr (ext_l e h)
theorem DvL.mono (e : Ext F F') (p : as <+: as') : ∀ {vs : List V} {ds : List D}, DvL K F as vs ds → DvL K F' as' vs ds
  | _, _, .nil => .nil
  | _, _, .cons h t => .cons (Dv.mono e p h) (DvL.mono e p t)
end
theorem DvL.length : ∀ {vs : List V} {ds : List D}, DvL K F as vs ds → vs.length = ds.length
  | _, _, .nil => rfl
  | _, _, .cons _ t => congrArg (· + 1) t.length
theorem DvL.get : ∀ {vs : List V} {ds : List D} {i : Nat} {d : D}, DvL K F as vs ds → ds[i]? = some d → ∃ v, vs[i]? = some v ∧ Dv K F as v d
  | _, _, _, _, .nil, e => by simp at e
  | _, _, 0, _, .cons h _, e => by
    simp at e
    subst e
    exact ⟨_, rfl, h⟩
  | _, _, i + 1, d, .cons _ t, e => by
    obtain ⟨v, h1, h2⟩ := DvL.get (i := i) (d := d) t (by simpa using e)
    exact ⟨v, by simpa using h1, h2⟩
theorem DvL.getV : ∀ {vs : List V} {ds : List D} {i : Nat} {v : V}, DvL K F as vs ds → vs[i]? = some v → ∃ d, ds[i]? = some d ∧ Dv K F as v d
  | _, _, _, _, .nil, e => by simp at e
  | _, _, 0, _, .cons h _, e => by
    simp at e
    subst e
    exact ⟨_, rfl, h⟩
  | _, _, i + 1, v, .cons _ t, e => by
    obtain ⟨d, h1, h2⟩ := DvL.getV (i := i) (v := v) t (by simpa using e)
    exact ⟨d, by simpa using h1, h2⟩
theorem DvL.append : ∀ {vs ws : List V} {ds es : List D}, DvL K F as vs ds → DvL K F as ws es → DvL K F as (vs ++ ws) (ds ++ es)
  | _, _, _, _, .nil, h => h
  | _, _, _, _, .cons h t, g => .cons h (DvL.append t g)
theorem DvL.set {v : V} {d : D} (h : Dv K F as v d) : ∀ {vs : List V} {ds : List D} (i : Nat), DvL K F as vs ds → DvL K F as (vs.set i v) (ds.set i d)
  | _, _, _, .nil => .nil
  | _, _, 0, .cons _ t => .cons h t
  | _, _, i + 1, .cons q t => .cons q (DvL.set h i t)
theorem DvL.take : ∀ {vs : List V} {ds : List D} (i : Nat), DvL K F as vs ds → DvL K F as (vs.take i) (ds.take i)
  | _, _, 0, h => by
    rw [List.take_zero, List.take_zero]
    exact .nil
  | _, _, i + 1, .nil => .nil
  | _, _, i + 1, .cons h t => .cons h (DvL.take i t)
theorem DvL.drop : ∀ {vs : List V} {ds : List D} (i : Nat), DvL K F as vs ds → DvL K F as (vs.drop i) (ds.drop i)
  | _, _, 0, h => h
  | _, _, i + 1, .nil => .nil
  | _, _, i + 1, .cons h t => DvL.drop i t
theorem DvL.rev : ∀ {vs : List V} {ds : List D}, DvL K F as vs ds → DvL K F as vs.reverse ds.reverse
  | _, _, .nil => .nil
  | _, _, .cons h t => by
    rw [List.reverse_cons, List.reverse_cons]
    exact t.rev.append (.cons h .nil)
theorem DvL.eraseIdx : ∀ {vs : List V} {ds : List D} (i : Nat), DvL K F as vs ds → DvL K F as (vs.eraseIdx i) (ds.eraseIdx i)
  | _, _, _, .nil => .nil
  | _, _, 0, .cons _ t => t
  | _, _, i + 1, .cons h t => .cons h (DvL.eraseIdx i t)
theorem DvL.flat : ∀ {n : Nat} {vs : List V} {ds : List D}, DvL K F as vs ds → DvL K F as (List.replicate n vs).flatten (List.replicate n ds).flatten
  | 0, _, _, _ => .nil
  | n + 1, vs, ds, h => by
    rw [List.replicate_succ, List.replicate_succ, List.flatten_cons, List.flatten_cons]
    exact h.append h.flat
theorem DvL.ints : ∀ ns : List Int, DvL K F as (ns.map V.int) (ns.map D.int)
  | [] => .nil
  | n :: r => .cons (.int n) (DvL.ints r)
theorem DvL.bls : ∀ ns : List Bool, DvL K F as (ns.map V.bl) (ns.map D.bl)
  | [] => .nil
  | n :: r => .cons (.bl n) (DvL.bls r)
end
/-! ### what stands, what came since -/
structure Ok (K : PySem.W.Frag) (F H : Hp) (as : List Addr) (cs : Cs) : Prop where
  fh : Ext F H
  nd : as.Nodup
  len : as.length = cs.length
  cell : ∀ (i : Nat) (a : Addr) (xs : List D), as[i]? = some a → cs[i]? = some xs → F a = none ∧ ∃ ys, H a = some (.lst ys) ∧ DvL K F as ys xs
structure Gro (F H : Hp) (as : List Addr) (F' H' : Hp) (as' : List Addr) : Prop where
  ff : Ext F F'
  fn : ∀ p, H p ≠ none → F' p = F p
  hh : ∀ p o, H p = some o → p ∉ as → H' p = some o
  hl : ∀ p, H p ≠ none → H' p ≠ none
  ap : as <+: as'
  an : ∀ p ∈ as', p ∈ as ∨ H p = none
theorem Gro.refl (F H : Hp) (as : List Addr) : Gro F H as F H as := ⟨Ext.refl F, fun _ _ => rfl, fun _ _ h _ => h, fun _ h => h, List.prefix_rfl, fun _ h => .inl h⟩
theorem Gro.trans {F H F1 H1 F2 H2 : Hp} {as as1 as2 : List Addr} (a : Gro F H as F1 H1 as1) (b : Gro F1 H1 as1 F2 H2 as2) : Gro F H as F2 H2 as2 where
  ff := a.ff.trans b.ff
  fn := fun p h => (b.fn p (a.hl p h)).trans (a.fn p h)
  hh := fun p o h n => b.hh p o (a.hh p o h n) fun q => (a.an p q).elim n fun z => by
    rw [h] at z
    cases z
  hl := fun p h => b.hl p (a.hl p h)
  ap := a.ap.trans b.ap
  an := fun p h => (b.an p h).elim (a.an p) fun z => .inr (by
    cases q : H p with
    | none => rfl
    | some o => exact absurd z (a.hl p (by rw [q]; exact fun y => nomatch y)))
section
variable {K : PySem.W.Frag} {F H F' H' : Hp} {as as' : List Addr} {cs : Cs} {p : Addr}
theorem Ok.old (ok : Ok K F H as cs) {a : Addr} (h : a ∈ as) : F a = none ∧ ∃ ys, H a = some (.lst ys) := by
  obtain ⟨i, hi, e⟩ := List.mem_iff_getElem.mp h
  have hc : i < cs.length := by rw [← ok.len]; exact hi
  obtain ⟨h1, ys, h2, _⟩ := ok.cell i a cs[i] (by rw [List.getElem?_eq_getElem hi, e]) (List.getElem?_eq_getElem hc)
  exact ⟨h1, ys, h2⟩
theorem Ok.out (ok : Ok K F H as cs) (h : H p = none) : p ∉ as := fun m => by
  obtain ⟨_, ys, e⟩ := ok.old m
  rw [h] at e
  cases e
theorem Ok.fnone (ok : Ok K F H as cs) (h : H p = none) : F p = none := ok.fh.none h
/-- a new frozen object -/
theorem gro_new (o : HO) (ok : Ok K F H as cs) (h : H p = none) : Gro F H as (upd F p o) (upd H p o) as where
  ff := Ext.new (ok.fnone h)
  fn := fun q hq => upd_ne fun e => hq (by rw [e]; exact h)
  hh := fun q u hq _ => (Ext.new h) q u hq
  hl := fun q hq => by
    rw [upd_ne fun e => hq (by rw [e]; exact h)]
    exact hq
  ap := List.prefix_rfl
  an := fun _ m => .inl m
theorem ok_new (o : HO) (ok : Ok K F H as cs) (h : H p = none) : Ok K (upd F p o) (upd H p o) as cs where
  fh := ok.fh.upd2
  nd := ok.nd
  len := ok.len
  cell := fun i a xs ha hx => by
    obtain ⟨h1, ys, h2, h3⟩ := ok.cell i a xs ha hx
    have ne : a ≠ p := fun e => by
      rw [e, h] at h2
      cases h2
    exact ⟨by rw [upd_ne ne]; exact h1, ys, by rw [upd_ne ne]; exact h2, h3.mono (Ext.new (ok.fnone h)) List.prefix_rfl⟩
/-- a new object that is not frozen -/
theorem gro_out (o : HO) (ok : Ok K F H as cs) (h : H p = none) : Gro F H as F (upd H p o) as where
  ff := Ext.refl F
  fn := fun _ _ => rfl
  hh := fun q u hq _ => (Ext.new h) q u hq
  hl := fun q hq => by
    rw [upd_ne fun e => hq (by rw [e]; exact h)]
    exact hq
  ap := List.prefix_rfl
  an := fun _ m => .inl m
theorem ok_out (o : HO) (ok : Ok K F H as cs) (h : H p = none) : Ok K F (upd H p o) as cs where
  fh := ok.fh.mut (ok.fnone h)
  nd := ok.nd
  len := ok.len
  cell := fun i a xs ha hx => by
    obtain ⟨h1, ys, h2, h3⟩ := ok.cell i a xs ha hx
    have ne : a ≠ p := fun e => by
      rw [e, h] at h2
      cases h2
    exact ⟨h1, ys, by rw [upd_ne ne]; exact h2, h3⟩
/-- a new cell -/
theorem gro_cell (o : HO) (ok : Ok K F H as cs) (h : H p = none) : Gro F H as F (upd H p o) (as ++ [p]) where
  ff := Ext.refl F
  fn := fun _ _ => rfl
  hh := fun q u hq _ => (Ext.new h) q u hq
  hl := fun q hq => by
    rw [upd_ne fun e => hq (by rw [e]; exact h)]
    exact hq
  ap := List.prefix_append _ _
  an := fun q m => (List.mem_append.mp m).elim .inl fun z => .inr (by
    rw [List.mem_singleton.mp z]
    exact h)
theorem ok_cell {ys : List V} {xs : List D} (ok : Ok K F H as cs) (h : H p = none) (hy : DvL K F as ys xs) : Ok K F (upd H p (.lst ys)) (as ++ [p]) (cs ++ [xs]) where
  fh := ok.fh.mut (ok.fnone h)
  nd := List.nodup_append.mpr ⟨ok.nd, List.nodup_cons.mpr ⟨List.not_mem_nil, List.nodup_nil⟩, fun a ha b hb e => by
    rw [List.mem_singleton.mp hb] at e
    rw [e] at ha
    exact ok.out h ha⟩
  len := by rw [List.length_append, List.length_append, ok.len]; rfl
  cell := fun i a zs ha hz => by
    by_cases hi : i < as.length
    · rw [List.getElem?_append_left hi] at ha
      rw [List.getElem?_append_left (by rw [← ok.len]; exact hi)] at hz
      obtain ⟨h1, ws, h2, h3⟩ := ok.cell i a zs ha hz
      have ne : a ≠ p := fun e => by
        rw [e, h] at h2
        cases h2
      exact ⟨h1, ws, by rw [upd_ne ne]; exact h2, h3.mono (Ext.refl F) (List.prefix_append _ _)⟩
    · rw [List.getElem?_append_right (Nat.le_of_not_lt hi)] at ha
      rw [List.getElem?_append_right (by rw [← ok.len]; exact Nat.le_of_not_lt hi), ← ok.len] at hz
      have e0 : i - as.length = 0 := by
        cases q : i - as.length with
        | zero => rfl
        | succ n =>
          rw [q] at ha
          simp at ha
      rw [e0] at ha hz
      have ea : p = a := by simpa using ha
      have ez : xs = zs := by simpa using hz
      subst ea ez
      exact ⟨ok.fnone h, ys, upd_same, hy.mono (Ext.refl F) (List.prefix_append _ _)⟩
/-- a cell's content changes -/
theorem gro_set {i : Nat} {ys : List V} (o : HO) (ok : Ok K F H as cs) (hp : as[i]? = some p) (h : H p = some (.lst ys)) : Gro F H as F (upd H p o) as where
  ff := Ext.refl F
  fn := fun _ _ => rfl
  hh := fun q u hq n => by
    have ne : q ≠ p := fun e => n (by rw [e]; exact List.mem_of_getElem? hp)
    rw [upd_ne ne]
    exact hq
  hl := fun q hq => by
    by_cases e : q = p
    · rw [e, upd_same]
      exact fun z => nomatch z
    · rw [upd_ne e]
      exact hq
  ap := List.prefix_rfl
  an := fun _ m => .inl m
theorem ok_set {i : Nat} {ys : List V} {xs : List D} (ok : Ok K F H as cs) (hp : as[i]? = some p) (hy : DvL K F as ys xs) : Ok K F (upd H p (.lst ys)) as (cs.set i xs) where
  fh := ok.fh.mut (ok.old (List.mem_of_getElem? hp)).1
  nd := ok.nd
  len := by rw [List.length_set, ok.len]
  cell := fun j a zs ha hz => by
    by_cases e : j = i
    · subst e
      rw [hp] at ha
      have ea : p = a := Option.some.inj ha
      have hl : j < cs.length := by
        rw [← ok.len]
        exact (List.getElem?_eq_some_iff.mp hp).1
      rw [List.getElem?_set_self hl] at hz
      have ez : xs = zs := Option.some.inj hz
      subst ea ez
      exact ⟨(ok.old (List.mem_of_getElem? hp)).1, ys, upd_same, hy⟩
    · rw [List.getElem?_set_ne (Ne.symm e)] at hz
      obtain ⟨h1, ws, h2, h3⟩ := ok.cell j a zs ha hz
      have ne : a ≠ p := fun q => e (by
        obtain ⟨l1, e1⟩ := List.getElem?_eq_some_iff.mp ha
        obtain ⟨l2, e2⟩ := List.getElem?_eq_some_iff.mp hp
        exact (List.getElem_inj ok.nd).mp (e1.trans (q.trans e2.symm)))
      exact ⟨h1, ws, by rw [upd_ne ne]; exact h2, h3⟩
theorem Dv.gro {v : V} {d : D} (h : Dv K F as v d) (g : Gro F H as F' H' as') : Dv K F' as' v d := h.mono g.ff g.ap
theorem DvL.gro {v : List V} {d : List D} (h : DvL K F as v d) (g : Gro F H as F' H' as') : DvL K F' as' v d := h.mono g.ff g.ap
end
/-! ### names' slots -/
structure Sl (K : PySem.W.Frag) (F : Hp) (as : List Addr) (σ : L2.St) (env : En) : Prop where
  len : σ.length = env.length
  at_ : ∀ (i : Nat) (d : D), env[i]? = some (some d) → ∃ v, σ[i]? = some (some v) ∧ Dv K F as v d
section
variable {K : PySem.W.Frag} {F H F' H' : Hp} {as as' : List Addr} {σ : L2.St} {env : En}
theorem Sl.gro (s : Sl K F as σ env) (g : Gro F H as F' H' as') : Sl K F' as' σ env := ⟨s.len, fun i d e => by
  obtain ⟨v, h1, h2⟩ := s.at_ i d e
  exact ⟨v, h1, h2.gro g⟩⟩
theorem Sl.set {v : V} {d : D} (s : Sl K F as σ env) (h : Dv K F as v d) (i : Nat) : Sl K F as (σ.set i (some v)) (env.set i (some d)) := ⟨by rw [List.length_set, List.length_set, s.len], fun j e he => by
  by_cases q : j = i
  · subst q
    by_cases hl : j < env.length
    · rw [List.getElem?_set_self hl] at he
      rw [List.getElem?_set_self (by rw [s.len]; exact hl)]
      have ee : d = e := Option.some.inj (Option.some.inj he)
      subst ee
      exact ⟨v, rfl, h⟩
    · rw [List.getElem?_eq_none (by rw [List.length_set]; exact Nat.le_of_not_lt hl)] at he
      cases he
  · rw [List.getElem?_set_ne (Ne.symm q)] at he ⊢
    exact s.at_ j e he⟩
theorem Sl.unset (s : Sl K F as σ env) (i : Nat) (x : Option V) : Sl K F as (σ.set i x) (env.set i none) := ⟨by rw [List.length_set, List.length_set, s.len], fun j e he => by
  by_cases q : j = i
  · subst q
    by_cases hl : j < env.length
    · rw [List.getElem?_set_self hl] at he
      cases Option.some.inj he
    · rw [List.getElem?_eq_none (by rw [List.length_set]; exact Nat.le_of_not_lt hl)] at he
      cases he
  · rw [List.getElem?_set_ne (Ne.symm q)] at he ⊢
    exact s.at_ j e he⟩
/-- the slots of a comprehension's own names forgotten -/
def wip (env : En) : List Nat → En
  | [] => env
  | v :: vs => (wip env vs).set v none
theorem Sl.wip (s : Sl K F as σ env) : ∀ vs : List Nat, Sl K F as (wipe σ vs) (G.wip env vs)
  | [] => s
  | v :: vs => (Sl.wip s vs).unset v none
theorem Sl.start : ∀ (n : Nat) {vs : List V} {ds : List D}, DvL K F as vs ds → Sl K F as (vs.map some ++ List.replicate n none) (ds.map some ++ List.replicate n none) := fun n {vs ds} h => ⟨by simp [h.length], fun i d e => by
  by_cases hi : i < ds.length
  · rw [List.getElem?_append_left (by simpa using hi), List.getElem?_map] at e
    cases q : ds[i]? with
    | none =>
      rw [q] at e
      cases e
    | some d' =>
      rw [q] at e
      have ed : d' = d := Option.some.inj (Option.some.inj e)
      subst ed
      obtain ⟨v, h1, h2⟩ := h.get q
      refine ⟨v, ?_, h2⟩
      rw [List.getElem?_append_left (by simpa [h.length] using hi), List.getElem?_map, h1]
      rfl
  · rw [List.getElem?_append_right (by simpa using hi)] at e
    obtain ⟨_, q⟩ := List.getElem?_eq_some_iff.mp e
    rw [List.getElem_replicate] at q
    cases q⟩
end
/-! ### results as wishes -/
structure Ct where
  lines : Addr
  thing : Addr
  kind : Addr
  nonet : Addr
  net : Addr
def atV : Option Int → V
  | none => .non
  | some i => .int i
def XRel (ct : Ct) (H : Hp) : Exn → Value → Option Addr → Prop
  | .lines, c, d => c = .ref ct.lines ∧ d = none
  | .thing, c, d => c = .ref ct.thing ∧ d = none
  | .kind, c, d => c = .ref ct.kind ∧ d = none
  | .nonet, c, d => c = .ref ct.nonet ∧ d = none
  | .net o, c, d => c = .ref ct.net ∧ ∃ dd fs, d = some dd ∧ H dd = some (.xd fs) ∧ fs.lookup (PySem.Str.ofString "at") = some (atV o)
def out {α : Type} (K : PySem.W.Frag) (ct : Ct) (W : WX) (n : Nat) (F H : Hp) (as : List Addr) (r : Rs α) (P : α → Cs → Hp → Hp → List Addr → Prop) : Prop := match r with
  | .ok a cs => ∀ F' H' as', Gro F H as F' H' as' → Ok K F' H' as' cs → P a cs F' H' as'
  | .ex x cs => ∀ c d σ' F' H' as', σ'.length = n → Gro F H as F' H' as' → Ok K F' H' as' cs → XRel ct H' x c d → W c d σ' H'
  | .no => False
section
variable {α β : Type} {K : PySem.W.Frag} {ct : Ct} {W : WX} {n : Nat} {F H F1 H1 : Hp} {as as1 : List Addr}
theorem out_mono {r : Rs α} {P : α → Cs → Hp → Hp → List Addr → Prop} (g : Gro F H as F1 H1 as1) (h : out K ct W n F H as r P) : out K ct W n F1 H1 as1 r P := by
  cases r with
  | ok a cs => exact fun F' H' as' g' o => h F' H' as' (g.trans g') o
  | ex x cs => exact fun c d σ' F' H' as' l g' o x' => h c d σ' F' H' as' l (g.trans g') o x'
  | no => exact h
theorem out_imp {r : Rs α} {P P' : α → Cs → Hp → Hp → List Addr → Prop} (h : out K ct W n F H as r P) (k : ∀ a cs F' H' as', Gro F H as F' H' as' → Ok K F' H' as' cs → P a cs F' H' as' → P' a cs F' H' as') : out K ct W n F H as r P' := by
  cases r with
  | ok a cs => exact fun F' H' as' g o => k a cs F' H' as' g o (h F' H' as' g o)
  | ex x cs => exact h
  | no => exact h
theorem out_bnd {m : M α} {k : α → M β} {cs : Cs} {P : β → Cs → Hp → Hp → List Addr → Prop} (h : out K ct W n F H as (M.bnd m k cs) P) : out K ct W n F H as (m cs) fun a cs' F' H' as' => out K ct W n F' H' as' (k a cs') P := by
  unfold M.bnd at h
  cases e : m cs with
  | ok a cs' =>
    rw [e] at h
    exact fun F' H' as' g o => out_mono g h
  | ex x cs' =>
    rw [e] at h
    exact h
  | no =>
    rw [e] at h
    exact h
theorem out_ok {a : α} {cs : Cs} {P : α → Cs → Hp → Hp → List Addr → Prop} (o : Ok K F H as cs) (h : out K ct W n F H as (.ok a cs) P) : P a cs F H as := h F H as (Gro.refl F H as) o
end
/-! ### canonical readings -/
def oD (K : PySem.W.Frag) (Q : VK) : D → Cs → Hp → Hp → List Addr → Prop := fun d _ F' H' as' => ∀ v, Dv K F' as' v d → Q v H'
def tD (K : PySem.W.Frag) (ct : Ct) (W : WX) (m : En → M D) : TE := fun σ H Q => ∃ F as env cs, Ok K F H as cs ∧ Sl K F as σ env ∧ out K ct W σ.length F H as (m env cs) (oD K Q)
def tT (K : PySem.W.Frag) (ct : Ct) (W : WX) (m : En → M Bool) : TT := fun σ H Q => ∃ F as env cs, Ok K F H as cs ∧ Sl K F as σ env ∧ out K ct W σ.length F H as (m env cs) fun b _ _ H' _ => Q b H'
def tA (K : PySem.W.Frag) (ct : Ct) (W : WX) (m : En → M (List D)) : TA := fun σ H Q => ∃ F as env cs, Ok K F H as cs ∧ Sl K F as σ env ∧ out K ct W σ.length F H as (m env cs) fun ds _ F' H' as' => ∀ vs, DvL K F' as' vs ds → Q vs H'
inductive Fl where
  | nx (env : En) | rt (d : D) | bk (env : En) | ct (env : En)
def oS (K : PySem.W.Frag) (n : Nat) (E : Ends) : Fl → Cs → Hp → Hp → List Addr → Prop
  | .nx env', _, F', H', as' => ∀ σ', σ'.length = n → Sl K F' as' σ' env' → E.nx σ' H'
  | .rt d, _, F', H', as' => ∀ v, Dv K F' as' v d → E.rt v H'
  | .bk env', _, F', H', as' => ∀ σ', σ'.length = n → Sl K F' as' σ' env' → E.bk σ' H'
  | .ct env', _, F', H', as' => ∀ σ', σ'.length = n → Sl K F' as' σ' env' → E.ct σ' H'
def tS (K : PySem.W.Frag) (ct : Ct) (W : WX) (m : En → M Fl) : TS := fun E σ H => ∃ F as env cs, Ok K F H as cs ∧ Sl K F as σ env ∧ out K ct W σ.length F H as (m env cs) (oS K σ.length E)
theorem PE.imp {X : Cx} {e : Expr} {t t' : TE} (h : PE X e t) (k : ∀ σ H Q, t' σ H Q → t σ H Q) : PE X e t' := ⟨fun pins s σ H Q I w => h.run pins s σ H Q I (k σ H Q w)⟩
theorem PT.imp {X : Cx} {e : Expr} {t t' : TT} (h : PT X e t) (k : ∀ σ H Q, t' σ H Q → t σ H Q) : PT X e t' := ⟨fun pins s σ H Q I w => h.run pins s σ H Q I (k σ H Q w)⟩
theorem PA.imp {X : Cx} {e : List Expr} {t t' : TA} (h : PA X e t) (k : ∀ σ H Q, t' σ H Q → t σ H Q) : PA X e t' := ⟨fun pos pins s σ H Q I w => h.run pos pins s σ H Q I (k σ H Q w)⟩
theorem PS.imp {X : Cx} {e : Stmt} {t t' : TS} (h : PS X e t) (k : ∀ E σ H, t' E σ H → t E σ H) : PS X e t' := ⟨fun pins s σ H E I w => h.run pins s σ H E I (k E σ H w)⟩
theorem PSs.imp {X : Cx} {e : List Stmt} {t t' : TS} (h : PSs X e t) (k : ∀ E σ H, t' E σ H → t E σ H) : PSs X e t' := ⟨fun pins s σ H E I w => h.run pins s σ H E I (k E σ H w)⟩
end G
/-! G1: expressions. -/
namespace G
open L2 PySem PySem.Spec PyProof.Rows
def szOk (n : Nat) : Bool := decide (n ≤ 1000000)
theorem szOk_le {n : Nat} (h : szOk n = true) : n ≤ sizeLine := Nat.le_trans (of_decide_eq_true h) (by decide)
theorem szOk_lt {n : Nat} (h : szOk n = true) : n < sizeLine := Nat.lt_of_le_of_lt (of_decide_eq_true h) (by decide)
/-! ### what a datum holds -/
def lstOf (cs : Cs) : D → Option (List D)
  | .lst xs => some xs
  | .ref i => cs[i]?
  | _ => none
def seqOf (cs : Cs) : D → Option (List D)
  | .scr ns => some (ns.map .int)
  | d => lstOf cs d
section
variable {K : PySem.W.Frag} {F H : Hp} {as : List Addr} {cs : Cs} {v : V} {d : D} {xs : List D}
theorem lst_at (ok : Ok K F H as cs) (h : Dv K F as v d) (e : lstOf cs d = some xs) : ∃ a ys, v = .ref a ∧ H a = some (.lst ys) ∧ DvL K F as ys xs := by
  cases h with
  | lst h1 h2 =>
    cases e
    exact ⟨_, _, rfl, ok.fh _ _ h1, h2⟩
  | ref h1 =>
    obtain ⟨_, ys, h2, h3⟩ := ok.cell _ _ _ h1 e
    exact ⟨_, ys, rfl, h2, h3⟩
  | _ => cases e
theorem seq_at (ok : Ok K F H as cs) (h : Dv K F as v d) (e : seqOf cs d = some xs) : ∃ a ys, v = .ref a ∧ SqL K H a ys ∧ DvL K F as ys xs := by
  cases d with
  | scr ns =>
    cases h with
    | scr h1 =>
      cases e
      exact ⟨_, _, rfl, ext_l ok.fh h1, DvL.ints ns⟩
  | _ =>
    obtain ⟨a, ys, h1, h2, h3⟩ := lst_at ok h e
    exact ⟨a, ys, h1, SqL.of h2, h3⟩
end
/-! ### new objects -/
/-- a new list: frozen, or a cell -/
def mkL (c : Bool) (zs : List D) : M D := fun cs => if c = true then .ok (.ref cs.length) (cs ++ [zs]) else .ok (.lst zs) cs
@[simp] theorem mkL_f (zs : List D) : mkL false zs = M.ret (.lst zs) := rfl
section
variable {K : PySem.W.Frag} {ct : Ct} {W : WX} {n : Nat} {F H : Hp} {as : List Addr} {cs : Cs} {Q : VK}
theorem new_mk {c : Bool} {zs : List D} {ys : List V} (ok : Ok K F H as cs) (hy : DvL K F as ys zs) (h : out K ct W n F H as (mkL c zs cs) (oD K Q)) (p : Addr) (hp : H p = none) : Q (.ref p) (upd H p (.lst ys)) := by
  cases c with
  | false => exact h _ _ as (gro_new _ ok hp) (ok_new _ ok hp) _ (.lst upd_same (hy.mono (Ext.new (ok.fnone hp)) List.prefix_rfl))
  | true =>
    refine h _ _ (as ++ [p]) (gro_cell _ ok hp) (ok_cell ok hp hy) _ (.ref ?_)
    rw [List.getElem?_append_right (by rw [ok.len]; exact Nat.le_refl _), ok.len, Nat.sub_self]
    rfl
theorem new_tup {zs : List D} {ys : List V} (ok : Ok K F H as cs) (hy : DvL K F as ys zs) (h : out K ct W n F H as (.ok (.tup zs) cs) (oD K Q)) (p : Addr) (hp : H p = none) : Q (.ref p) (upd H p (.tup ys)) :=
  h _ _ as (gro_new _ ok hp) (ok_new _ ok hp) _ (.tup upd_same (hy.mono (Ext.new (ok.fnone hp)) List.prefix_rfl))
theorem end_ok {d : D} {v : V} (ok : Ok K F H as cs) (hv : Dv K F as v d) (h : out K ct W n F H as (.ok d cs) (oD K Q)) : Q v H := out_ok ok h v hv
end
/-! ### names, constants -/
def xVar (i : Nat) : En → M D := fun env => match env[i]? with
  | some (some d) => M.ret d
  | _ => M.no
def xC (d : D) : En → M D := fun _ => M.ret d
/-- what needs no heap -/
def flatD : D → Bool
  | .non | .bl _ | .int _ | .str _ => true
  | _ => false
section
variable {X : Cx} {ct : Ct} {W : WX}
theorem ge_var {i : Nat} {e : Expr} (h : PE X e (tVar i)) : PE X e (tD X.K ct W (xVar i)) := PE.imp h (by
  rintro σ H Q ⟨F, as, env, cs, ok, sl, h⟩
  unfold xVar at h
  cases q : env[i]? with
  | none =>
    rw [q] at h
    exact False.elim h
  | some o =>
    rw [q] at h
    cases o with
    | none => exact False.elim h
    | some d =>
      obtain ⟨v, h1, h2⟩ := sl.at_ i d q
      exact ⟨v, h1, end_ok ok h2 h⟩)
theorem ge_c {d : D} {v : V} {e : Expr} (h : PE X e (tC v)) (hd : ∀ F as, Dv X.K F as v d) : PE X e (tD X.K ct W (xC d)) := PE.imp h (by
  rintro σ H Q ⟨F, as, env, cs, ok, sl, h⟩
  exact end_ok ok (hd F as) h)
theorem ge_int {i j pos} : PE X (.Constant (.int i) j pos) (tD X.K ct W (xC (.int i))) := ge_c pe_int fun _ _ => .int i
theorem ge_bl {b j pos} : PE X (.Constant (.bool b) j pos) (tD X.K ct W (xC (.bl b))) := ge_c pe_bl fun _ _ => .bl b
theorem ge_non {j pos} : PE X (.Constant .none j pos) (tD X.K ct W (xC .non)) := ge_c pe_non fun _ _ => .non
theorem ge_str {x j pos} : PE X (.Constant (.str x) j pos) (tD X.K ct W (xC (.str x))) := ge_c pe_str fun _ _ => .str x
end
/-! ### operators -/
def xBin (f : D → D → M D) (a b : En → M D) : En → M D := fun env => M.bnd (a env) fun x => M.bnd (b env) fun y => f x y
def xUn (f : D → M D) (a : En → M D) : En → M D := fun env => M.bnd (a env) f
def OpD (K : PySem.W.Frag) (ct : Ct) (r : R2) (f : D → D → M D) : Prop :=
  ∀ (W : WX) (n : Nat) (F H : Hp) (as : List Addr) (cs : Cs) (x y : V) (d e : D) (Q : VK), Ok K F H as cs → Dv K F as x d → Dv K F as y e → out K ct W n F H as (f d e cs) (oD K Q) → r x y H Q
theorem OpD.or {K : PySem.W.Frag} {ct : Ct} {r r' : R2} {f f' : D → D → M D} (p : D → D → Bool) (h : OpD K ct r f) (h' : OpD K ct r' f') : OpD K ct (fun x y H Q => r x y H Q ∨ r' x y H Q) (fun d e => if p d e = true then f d e else f' d e) := fun W n F H as cs x y d e Q ok hx hy ho => by
  have ho : out K ct W n F H as ((if p d e = true then f d e else f' d e) cs) (oD K Q) := ho
  by_cases q : p d e = true
  · rw [if_pos q] at ho
    exact .inl (h W n F H as cs x y d e Q ok hx hy ho)
  · rw [if_neg q] at ho
    exact .inr (h' W n F H as cs x y d e Q ok hx hy ho)
section
variable {X : Cx} {ct : Ct} {W : WX} {a b c : Expr} {ma mb mc : En → M D} {f g : D → D → M D} {r r' : R2} {pos : Pos}
theorem tOp_of {K : PySem.W.Frag} (od : OpD K ct r f) {σ : L2.St} {H : Hp} {Q : VK} (h : tD K ct W (xBin f ma mb) σ H Q) : tOp r (tD K ct W ma) (tD K ct W mb) σ H Q := by
  obtain ⟨F, as, env, cs, ok, sl, h⟩ := h
  refine ⟨F, as, env, cs, ok, sl, out_imp (out_bnd h) fun d cs1 F1 H1 as1 g ok1 h1 v hv => ?_⟩
  refine ⟨F1, as1, env, cs1, ok1, sl.gro g, out_imp (out_bnd h1) fun e cs2 F2 H2 as2 g2 ok2 h2 u hu => ?_⟩
  exact od W _ F2 H2 as2 cs2 v u d e Q ok2 (hv.gro g2) hu h2
theorem ge_op {op : Operator} (ho : OpR X (binaryOp op) r) (od : OpD X.K ct r f) (ha : PE X a (tD X.K ct W ma)) (hb : PE X b (tD X.K ct W mb)) : PE X (.BinOp a op b pos) (tD X.K ct W (xBin f ma mb)) := PE.imp (pe_op ho ha hb) fun _ _ _ => tOp_of od
theorem ge_cmp {op : CmpOp} (ho : OpR X (compareOp op) r) (od : OpD X.K ct r f) (ha : PE X a (tD X.K ct W ma)) (hb : PE X b (tD X.K ct W mb)) (hm : behindInMarks op b = false) : PE X (.Compare a [op] [b] pos) (tD X.K ct W (xBin f ma mb)) := PE.imp (pe_cmpR ho ha hb hm) fun _ _ _ => tOp_of od
theorem ge_ix (hr : IxR X r) (od : OpD X.K ct r f) (ha : PE X a (tD X.K ct W ma)) (hb : PE X b (tD X.K ct W mb)) (hs : PlainIx b) : PE X (.Subscript a b pos) (tD X.K ct W (xBin f ma mb)) := PE.imp (pe_ix hr ha hb hs) fun _ _ _ => tOp_of od
def xChain (f g : D → D → M D) (a b c : En → M D) : En → M D := fun env => M.bnd (a env) fun x => M.bnd (b env) fun y => M.bnd (f x y) fun z => match z with
  | .bl true => M.bnd (c env) fun w => g y w
  | .bl false => M.ret (.bl false)
  | _ => M.no
theorem tChain_of {K : PySem.W.Frag} (od : OpD K ct r f) (od' : OpD K ct r' g) {σ : L2.St} {H : Hp} {Q : VK} (h : tD K ct W (xChain f g ma mb mc) σ H Q) : tChain r r' (tD K ct W ma) (tD K ct W mb) (tD K ct W mc) σ H Q := by
  obtain ⟨F, as, env, cs, ok, sl, h⟩ := h
  refine ⟨F, as, env, cs, ok, sl, out_imp (out_bnd h) fun d cs1 F1 H1 as1 g1 ok1 h1 v hv => ?_⟩
  refine ⟨F1, as1, env, cs1, ok1, sl.gro g1, out_imp (out_bnd h1) fun e cs2 F2 H2 as2 g2 ok2 h2 u hu => ?_⟩
  refine od W σ.length F2 H2 as2 cs2 v u d e _ ok2 (hv.gro g2) hu (out_imp (out_bnd h2) fun z cs3 F3 H3 as3 g3 ok3 h3 w hw => ?_)
  split at h3
  · cases hw
    refine ⟨true, rfl, ?_⟩
    rw [if_pos rfl]
    refine ⟨F3, as3, env, cs3, ok3, ((sl.gro g1).gro g2).gro g3, out_imp (out_bnd h3) fun y cs4 F4 H4 as4 g4 ok4 h4 t ht => ?_⟩
    exact od' W _ F4 H4 as4 cs4 u t e y Q ok4 ((hu.gro g3).gro g4) ht h4
  · cases hw
    refine ⟨false, rfl, ?_⟩
    rw [if_neg Bool.false_ne_true]
    exact end_ok ok3 (.bl false) h3
  · exact False.elim h3
theorem ge_chain {op op' : CmpOp} (ho : OpR X (compareOp op) r) (od : OpD X.K ct r f) (ho' : OpR X (compareOp op') r') (od' : OpD X.K ct r' g) (ha : PE X a (tD X.K ct W ma)) (hb : PE X b (tD X.K ct W mb)) (hc : PE X c (tD X.K ct W mc))
    (hm : lastMarks [op, op'] [b, c] = false := by with_unfolding_all rfl) : PE X (.Compare a [op, op'] [b, c] pos) (tD X.K ct W (xChain f g ma mb mc)) := PE.imp (pe_chain ho ho' ha hb hc hm) fun _ _ _ => tChain_of od od'
/-- one-place operators -/
def UnD (K : PySem.W.Frag) (ct : Ct) (r : V → Hp → VK → Prop) (f : D → M D) : Prop :=
  ∀ (W : WX) (n : Nat) (F H : Hp) (as : List Addr) (cs : Cs) (x : V) (d : D) (Q : VK), Ok K F H as cs → Dv K F as x d → out K ct W n F H as (f d cs) (oD K Q) → r x H Q
theorem un_of {K : PySem.W.Frag} {r : V → Hp → VK → Prop} {f : D → M D} (od : UnD K ct r f) {σ : L2.St} {H : Hp} {Q : VK} (h : tD K ct W (xUn f ma) σ H Q) : tD K ct W ma σ H fun x H1 => r x H1 Q := by
  obtain ⟨F, as, env, cs, ok, sl, h⟩ := h
  exact ⟨F, as, env, cs, ok, sl, out_imp (out_bnd h) fun d cs1 F1 H1 as1 g ok1 h1 v hv => od W _ F1 H1 as1 cs1 v d Q ok1 hv h1⟩
theorem ge_un {op : UnaryOp} {r : V → Hp → VK → Prop} {f : D → M D} (ho : UnR X (unaryOp op) r) (od : UnD X.K ct r f) (ha : PE X a (tD X.K ct W ma)) : PE X (.UnaryOp op a pos) (tD X.K ct W (xUn f ma)) := PE.imp (pe_un ho ha) fun _ _ _ => un_of od
end
/-! #### ints -/
def iOp (C : Int → Int → Bool) (g : Int → Int → D) : D → D → M D
  | .int i, .int j => if C i j = true then M.ret (g i j) else M.no
  | _, _ => M.no
section
variable {K : PySem.W.Frag} {ct : Ct}
theorem od_I {C : Int → Int → Prop} {Cb : Int → Int → Bool} {g : Int → Int → V} {gd : Int → Int → D} (hc : ∀ i j, Cb i j = true → C i j) (hg : ∀ F as i j, Dv K F as (g i j) (gd i j)) : OpD K ct (rI C g) (iOp Cb gd) := fun W n F H as cs x y d e Q ok hx hy h => by
  unfold iOp at h
  split at h
  · split at h
    · rename_i i j q
      cases hx
      cases hy
      exact ⟨i, j, rfl, rfl, hc i j q, end_ok ok (hg F as i j) h⟩
    · exact False.elim h
  · exact False.elim h
theorem od_I0 {g : Int → Int → V} {gd : Int → Int → D} (hg : ∀ F as i j, Dv K F as (g i j) (gd i j)) : OpD K ct (rI0 g) (iOp (fun _ _ => true) gd) := fun W n F H as cs x y d e Q ok hx hy h => by
  unfold iOp at h
  split at h
  · rename_i i j
    rw [if_pos rfl] at h
    cases hx
    cases hy
    exact ⟨i, j, rfl, rfl, end_ok ok (hg F as i j) h⟩
  · exact False.elim h
def opSub := iOp (fun _ _ => true) fun i j => .int (i - j)
def opLt := iOp (fun _ _ => true) fun i j => .bl (decide (i < j))
def opLe := iOp (fun _ _ => true) fun i j => .bl (decide (i ≤ j))
def opGt := iOp (fun _ _ => true) fun i j => .bl (decide (j < i))
def opGe := iOp (fun _ _ => true) fun i j => .bl (decide (j ≤ i))
def opDiv := iOp (fun _ j => decide (0 < j ∧ j < 1073741824)) fun i j => .int (i / j)
def opMod := iOp (fun _ j => decide (0 < j)) fun i j => .int (i % j)
def opPow := iOp (fun i j => decide (0 ≤ j ∧ j ≤ 1000000 ∧ i.natAbs < 2 ^ 64)) fun i j => .int (i ^ j.toNat)
theorem od_sub : OpD K ct (rI0 fun i j => .int (i - j)) opSub := od_I0 fun _ _ _ _ => .int _
theorem od_lt : OpD K ct (rI0 fun i j => .bl (decide (i < j))) opLt := od_I0 fun _ _ _ _ => .bl _
theorem od_le : OpD K ct (rI0 fun i j => .bl (decide (i ≤ j))) opLe := od_I0 fun _ _ _ _ => .bl _
theorem od_gt : OpD K ct (rI0 fun i j => .bl (decide (j < i))) opGt := od_I0 fun _ _ _ _ => .bl _
theorem od_ge : OpD K ct (rI0 fun i j => .bl (decide (j ≤ i))) opGe := od_I0 fun _ _ _ _ => .bl _
theorem od_div : OpD K ct (rI CDiv fun i j => .int (i / j)) opDiv := od_I (fun i j h => show _ ∧ _ from of_decide_eq_true h) fun _ _ _ _ => .int _
theorem od_mod : OpD K ct (rI (fun _ j => 0 < j) fun i j => .int (i % j)) opMod := od_I (fun _ _ h => of_decide_eq_true h) fun _ _ _ _ => .int _
theorem od_pow : OpD K ct (rI CPow fun i j => .int (i ^ j.toNat)) opPow := od_I (fun i j h => show _ ∧ _ from of_decide_eq_true h) fun _ _ _ _ => .int _
end
/-! #### + and * -/
def opAdd (c : Bool) : D → D → M D
  | .int i, .int j => M.ret (.int (i + j))
  | .str x, .str y => if szOk (x.length + y.length) = true then M.ret (.str (x ++ y)) else M.no
  | .tup xs, .tup ys => if szOk (xs.length + ys.length) = true then M.ret (.tup (xs ++ ys)) else M.no
  | a, b => fun cs => match lstOf cs a, lstOf cs b with
    | some xs, some ys => if szOk (xs.length + ys.length) = true then mkL c (xs ++ ys) cs else .no
    | _, _ => .no
def rAddA (K : PySem.W.Frag) : R2 := fun x y H Q => (rI0 (fun i j => .int (i + j)) x y H Q) ∨ (fun x y H Q => (∃ i j, x = .str i ∧ y = .str j ∧ i.length + j.length ≤ sizeLine ∧ Q (.str (i ++ j)) H) ∨ (rCatA K x y H Q ∨ rCat x y H Q)) x y H Q
theorem op_addA {X : Cx} : OpR X (binaryOp .Add) (rAddA X.K) := OpR.or op_add (OpR.or op_add_str (OpR.or op_catA op_cat))
theorem DvL.nil_iff {K : PySem.W.Frag} {F : Hp} {as : List Addr} {vs : List V} {ds : List D} (h : DvL K F as vs ds) : vs = [] ↔ ds = [] := by
  cases h with
  | nil => simp
  | cons _ _ => simp
theorem od_add {K : PySem.W.Frag} {ct : Ct} (c : Bool) : OpD K ct (rAddA K) (opAdd c) := fun W n F H as cs x y d e Q ok hx hy h => by
  unfold opAdd at h
  split at h
  · cases hx
    cases hy
    exact .inl ⟨_, _, rfl, rfl, end_ok ok (.int _) h⟩
  · split at h
    · rename_i q
      cases hx
      cases hy
      exact .inr (.inl ⟨_, _, rfl, rfl, szOk_le q, end_ok ok (.str _) h⟩)
    · exact False.elim h
  · split at h
    · rename_i xs ys q
      cases hx with
      | tup t1 l1 =>
        cases hy with
        | tup t2 l2 =>
          refine .inr (.inr (.inl ⟨_, _, _, _, rfl, rfl, SqT.of (ok.fh _ _ t1), SqT.of (ok.fh _ _ t2), by rw [l1.length, l2.length]; exact szOk_le q, fun z => ?_, fun z z2 => ?_, fun z z2 p hp => ?_⟩))
          · rw [l1.nil_iff.mp z] at h
            exact end_ok ok (.tup t2 l2) h
          · rw [l2.nil_iff.mp z2, List.append_nil] at h
            exact end_ok ok (.tup t1 l1) h
          · exact new_tup ok (l1.append l2) h p hp
    · exact False.elim h
  · dsimp only at h
    split at h
    · split at h
      · rename_i e1 e2 q
        obtain ⟨a, ys, rfl, h1, l1⟩ := lst_at ok hx e1
        obtain ⟨b, zs, rfl, h2, l2⟩ := lst_at ok hy e2
        exact .inr (.inr (.inr ⟨a, b, ys, zs, rfl, rfl, h1, h2, by rw [l1.length, l2.length]; exact szOk_le q, new_mk ok (l1.append l2) h⟩))
      · exact False.elim h
    · exact False.elim h
/-- ints; a list n times -/
def opMul (c : Bool) : D → D → M D
  | .int i, .int j => if decide ((-(2 ^ 64) < i ∧ i < 2 ^ 64) ∨ (-(2 ^ 64) < j ∧ j < 2 ^ 64)) = true then M.ret (.int (i * j)) else M.no
  | a, .int k => fun cs => match lstOf cs a with
    | some xs => if (decide (-(2 ^ 63) ≤ k ∧ k < 2 ^ 63) && szOk (xs.length * k.toNat)) = true then mkL c (List.replicate k.toNat xs).flatten cs else .no
    | none => .no
  | _, _ => M.no
def rMulA : R2 := fun x y H Q => (rI CMul (fun i j => .int (i * j)) x y H Q) ∨ rRep x y H Q
theorem op_mulA {X : Cx} : OpR X (binaryOp .Mult) rMulA := OpR.or op_mul op_rep
theorem od_mul {K : PySem.W.Frag} {ct : Ct} (c : Bool) : OpD K ct rMulA (opMul c) := fun W n F H as cs x y d e Q ok hx hy h => by
  unfold opMul at h
  split at h
  · split at h
    · rename_i q
      cases hx
      cases hy
      exact .inl ⟨_, _, rfl, rfl, (show _ ∨ _ from of_decide_eq_true q), end_ok ok (.int _) h⟩
    · exact False.elim h
  · dsimp only at h
    split at h
    · split at h
      · rename_i e1 q
        obtain ⟨a, ys, rfl, h1, l1⟩ := lst_at ok hx e1
        cases hy
        obtain ⟨q1, q2⟩ := Bool.and_eq_true_iff.mp q
        obtain ⟨q3, q4⟩ := of_decide_eq_true q1
        exact .inr ⟨a, _, ys, rfl, rfl, h1, q3, q4, by rw [l1.length]; exact szOk_le q2, new_mk ok l1.flat h⟩
      · exact False.elim h
    · exact False.elim h
  · exact False.elim h
/-! #### - -/
def opNeg : D → M D
  | .int i => M.ret (.int (-i))
  | _ => M.no
theorem ud_neg {K : PySem.W.Frag} {ct : Ct} : UnD K ct (rU fun i => .int (-i)) opNeg := fun W n F H as cs x d Q ok hx h => by
  unfold opNeg at h
  split at h
  · cases hx
    exact ⟨_, rfl, end_ok ok (.int _) h⟩
  · exact False.elim h
/-! #### is None -/
def opIsN (b : Bool) : D → D → M D
  | .non, .non => M.ret (.bl b)
  | _, .non => M.ret (.bl (!b))
  | _, _ => M.no
theorem isN_v {K : PySem.W.Frag} {F : Hp} {as : List Addr} {x : V} {d : D} (h : Dv K F as x d) (q : d = .non → False) : decide (x = .non) = false := decide_eq_false fun e => by
  subst e
  cases h
  exact q rfl
theorem od_isN {K : PySem.W.Frag} {ct : Ct} : OpD K ct (fun x y H Q => y = .non ∧ Q (.bl (decide (x = .non))) H) (opIsN true) := fun W n F H as cs x y d e Q ok hx hy h => by
  unfold opIsN at h
  split at h
  · cases hx
    cases hy
    exact ⟨rfl, end_ok ok (.bl _) h⟩
  · rename_i q
    cases hy
    refine ⟨rfl, ?_⟩
    rw [isN_v hx fun z => q z]
    exact end_ok ok (.bl _) h
  · exact False.elim h
theorem od_notN {K : PySem.W.Frag} {ct : Ct} : OpD K ct (fun x y H Q => y = .non ∧ Q (.bl (!decide (x = .non))) H) (opIsN false) := fun W n F H as cs x y d e Q ok hx hy h => by
  unfold opIsN at h
  split at h
  · cases hx
    cases hy
    exact ⟨rfl, end_ok ok (.bl _) h⟩
  · rename_i q
    cases hy
    refine ⟨rfl, ?_⟩
    rw [isN_v hx fun z => q z]
    exact end_ok ok (.bl _) h
  · exact False.elim h
/-! #### == of data -/
mutual
def pyG (r : Nat → Option PyData) : D → Option PyData
  | .non => some .none
  | .bl b => some (.bool b)
  | .int i => some (.int i)
  | .str x => some (.str x)
  | .tup xs => (pyGL r xs).map .tuple
  | .lst xs => (pyGL r xs).map .list
  | .ref i => r i
  | .dic => none
  | .scr _ => none
def pyGL (r : Nat → Option PyData) : List D → Option (List PyData)
  | [] => some []
  | d :: ds => match pyG r d, pyGL r ds with
    | some p, some ps => some (p :: ps)
    | _, _ => none
end
def pyN (cs : Cs) : Nat → Nat → Option PyData
  | 0, _ => none
  | n + 1, i => match cs[i]? with
    | some xs => (pyGL (pyN cs n) xs).map .list
    | none => none
def py (cs : Cs) (d : D) : Option PyData := pyG (pyN cs 3) d
section
variable {K : PySem.W.Frag} {F H : Hp} {as : List Addr} {cs : Cs}
mutual
theorem pyG_dp (ok : Ok K F H as cs) {r : Nat → Option PyData} (hr : ∀ i p a, r i = some p → as[i]? = some a → Dp K H (.ref a) p) : ∀ {v : V} {d : D} {p : PyData}, Dv K F as v d → pyG r d = some p → Dp K H v p
  | _, _, _, .non, e => by
    cases e
    exact .non
  | _, _, _, .bl b, e => by
    cases e
    exact .bl b
  | _, _, _, .int i, e => by
    cases e
    exact .int i
  | _, _, _, .str x, e => by
    cases e
    exact .str x
  | _, _, p, .tup (ds := ds) h l, e => by
    have e2 : (pyGL r ds).map PyData.tuple = some p := e
    cases q : pyGL r ds with
    | none =>
      rw [q] at e2
      cases e2
    | some ps =>
      rw [q] at e2
      cases e2
      exact .tup (SqT.of (ok.fh _ _ h)) (pyGL_dp ok hr l q)
  | _, _, p, .lst (ds := ds) h l, e => by
    have e2 : (pyGL r ds).map PyData.list = some p := e
    cases q : pyGL r ds with
    | none =>
      rw [q] at e2
      cases e2
    | some ps =>
      rw [q] at e2
      cases e2
      exact .lst (SqL.of (ok.fh _ _ h)) (pyGL_dp ok hr l q)
  | _, _, _, .ref h, e => hr _ _ _ e h
  | _, _, _, .dic _, e => by cases e
  | _, _, _, .scr _, e => by cases e
theorem pyGL_dp (ok : Ok K F H as cs) {r : Nat → Option PyData} (hr : ∀ i p a, r i = some p → as[i]? = some a → Dp K H (.ref a) p) : ∀ {vs : List V} {ds : List D} {ps : List PyData}, DvL K F as vs ds → pyGL r ds = some ps → DpAll K H vs ps
  | _, _, _, .nil, e => by
    cases e
    exact .nil
  | _, _, ps, .cons (d := d) (ds := ds) h t, e => by
    have e2 : (match pyG r d, pyGL r ds with
      | some p, some ps => some (p :: ps)
      | _, _ => none) = some ps := e
    split at e2
    · rename_i p qs e3 e4
      cases e2
      exact .cons (pyG_dp ok hr h e3) (pyGL_dp ok hr t e4)
    · cases e2
end
theorem pyN_dp (ok : Ok K F H as cs) : ∀ (n i : Nat) (p : PyData) (a : Addr), pyN cs n i = some p → as[i]? = some a → Dp K H (.ref a) p
  | 0, _, _, _, e, _ => by cases e
  | n + 1, i, p, a, e, ha => by
    have e2 : (match cs[i]? with
      | some xs => (pyGL (pyN cs n) xs).map PyData.list
      | none => none) = some p := e
    cases hc : cs[i]? with
    | none =>
      rw [hc] at e2
      cases e2
    | some xs =>
      rw [hc] at e2
      have e3 : (pyGL (pyN cs n) xs).map PyData.list = some p := e2
      obtain ⟨_, ys, h1, h2⟩ := ok.cell i a xs ha hc
      cases q : pyGL (pyN cs n) xs with
      | none =>
        rw [q] at e3
        cases e3
      | some ps =>
        rw [q] at e3
        cases e3
        exact .lst (SqL.of h1) (pyGL_dp ok (pyN_dp ok n) h2 q)
theorem py_dp (ok : Ok K F H as cs) {v : V} {d : D} {p : PyData} (h : Dv K F as v d) (e : py cs d = some p) : Dp K H v p := pyG_dp ok (pyN_dp ok 3) h e
end
def opEq (b : Bool) : D → D → M D := fun d e cs => match py cs d, py cs e with
  | some p, some q => if (SeqAt.shaped p && SeqAt.shaped q) = true then .ok (.bl (if b = true then PyData.eqv p q else !PyData.eqv p q)) cs else .no
  | _, _ => .no
theorem od_eq {K : PySem.W.Frag} {ct : Ct} : OpD K ct (rEqD K) (opEq true) := fun W n F H as cs x y d e Q ok hx hy h => by
  unfold opEq at h
  split at h
  · split at h
    · rename_i p q e1 e2 hs
      obtain ⟨s1, s2⟩ := Bool.and_eq_true_iff.mp hs
      exact ⟨p, q, py_dp ok hx e1, py_dp ok hy e2, s1, s2, end_ok ok (.bl _) h⟩
    · exact False.elim h
  · exact False.elim h
theorem od_ne {K : PySem.W.Frag} {ct : Ct} : OpD K ct (rNeD K) (opEq false) := fun W n F H as cs x y d e Q ok hx hy h => by
  unfold opEq at h
  split at h
  · split at h
    · rename_i p q e1 e2 hs
      obtain ⟨s1, s2⟩ := Bool.and_eq_true_iff.mp hs
      exact ⟨p, q, py_dp ok hx e1, py_dp ok hy e2, s1, s2, end_ok ok (.bl _) h⟩
    · exact False.elim h
  · exact False.elim h
/-! #### a[i] -/
def opIx : D → D → M D
  | .tup xs, .int i => M.ofO (atI xs i)
  | .str z, .int i => if szOk z.length = true then (match atI z.cps.toList i with
    | some c => M.ret (.str ⟨#[c]⟩)
    | none => M.no) else M.no
  | a, .int i => fun cs => match seqOf cs a with
    | some xs => M.ofO (atI xs i) cs
    | none => .no
  | _, _ => M.no
theorem atI_dv {K : PySem.W.Frag} {F : Hp} {as : List Addr} {vs : List V} {ds : List D} {i : Int} {d : D} (h : DvL K F as vs ds) (e : atI ds i = some d) : ∃ v, atI vs i = some v ∧ Dv K F as v d := by
  unfold atI at e ⊢
  rw [h.length]
  cases q : ixN ds.length i with
  | none =>
    rw [q] at e
    cases e
  | some j =>
    rw [q] at e
    exact h.get e
theorem od_ix {K : PySem.W.Frag} {ct : Ct} : OpD K ct (rIx K) opIx := fun W n F H as cs x y d e Q ok hx hy h => by
  unfold opIx at h
  split at h
  · rename_i xs i
    cases hy
    cases hx with
    | tup t l =>
      cases q : atI xs i with
      | none =>
        rw [q] at h
        exact False.elim h
      | some z =>
        rw [q] at h
        obtain ⟨v, h1, h2⟩ := atI_dv l q
        exact .inr (.inl ⟨_, _, i, v, rfl, rfl, SqT.of (ok.fh _ _ t), h1, end_ok ok h2 h⟩)
  · split at h
    · rename_i z i q
      cases hx
      cases hy
      cases e1 : atI z.cps.toList i with
      | none =>
        rw [e1] at h
        exact False.elim h
      | some c =>
        rw [e1] at h
        exact .inr (.inr ⟨z, i, c, rfl, rfl, szOk_le q, e1, end_ok ok (.str _) h⟩)
    · exact False.elim h
  · rename_i i _ _
    dsimp only at h
    split at h
    · rename_i xs e1
      cases hy
      obtain ⟨a, ys, rfl, h1, l⟩ := seq_at ok hx e1
      cases q : atI xs i with
      | none =>
        rw [q] at h
        exact False.elim h
      | some z =>
        rw [q] at h
        obtain ⟨v, h2, h3⟩ := atI_dv l q
        exact .inl ⟨a, ys, i, v, rfl, rfl, h1, h2, end_ok ok h3 h⟩
    · exact False.elim h
  · exact False.elim h
/-! #### in, not in: a letter in a text; a text in a tuple of texts; an int in a list of ints -/
def opNotInS : D → D → M D
  | .str c, .str z => match c.cps.toList with
    | [k] => M.ret (.bl (!decide (k ∈ z.cps.toList)))
    | _ => M.no
  | _, _ => M.no
theorem od_notInS {K : PySem.W.Frag} {ct : Ct} : OpD K ct (fun x y H Q => ∃ (c : Nat) (z : Str), x = .str ⟨#[c]⟩ ∧ y = .str z ∧ Q (.bl (!decide (c ∈ z.cps.toList))) H) opNotInS := fun W n F H as cs x y d e Q ok hx hy h => by
  unfold opNotInS at h
  split at h
  · rename_i c z
    obtain ⟨⟨l⟩⟩ := c
    match l, h with
    | [], h => exact False.elim h
    | _ :: _ :: _, h => exact False.elim h
    | [k], h =>
      cases hx
      cases hy
      exact ⟨k, z, rfl, rfl, end_ok ok (.bl _) h⟩
  · exact False.elim h
def flatV? : D → Option V
  | .non => some .non
  | .bl b => some (.bl b)
  | .int i => some (.int i)
  | .str x => some (.str x)
  | _ => none
def flatVs? : List D → Option (List V)
  | [] => some []
  | d :: ds => match flatV? d, flatVs? ds with
    | some v, some vs => some (v :: vs)
    | _, _ => none
theorem flatV_eq {K : PySem.W.Frag} {F : Hp} {as : List Addr} {x w : V} {d : D} (h : Dv K F as x d) (e : flatV? d = some w) : x = w ∧ flatV w = true := by
  cases h <;> first | (cases e; exact ⟨rfl, rfl⟩) | cases e
theorem flatVs_eq {K : PySem.W.Frag} {F : Hp} {as : List Addr} : ∀ {xs ws : List V} {ds : List D}, DvL K F as xs ds → flatVs? ds = some ws → xs = ws ∧ ws.all flatV = true
  | _, _, _, .nil, e => by
    cases e
    exact ⟨rfl, rfl⟩
  | _, ws, _, .cons (d := d) (ds := ds) h t, e => by
    have e2 : (match flatV? d, flatVs? ds with
      | some v, some vs => some (v :: vs)
      | _, _ => none) = some ws := e
    split at e2
    · rename_i v vs e3 e4
      cases e2
      obtain ⟨a1, a2⟩ := flatV_eq h e3
      obtain ⟨b1, b2⟩ := flatVs_eq t e4
      subst a1 b1
      refine ⟨rfl, ?_⟩
      rw [List.all_cons, a2, b2]
      rfl
    · cases e2
def itsOf (cs : Cs) : D → Option (List D)
  | .tup xs => some xs
  | d => seqOf cs d
theorem its_at {K : PySem.W.Frag} {F H : Hp} {as : List Addr} {cs : Cs} {v : V} {d : D} {xs : List D} (ok : Ok K F H as cs) (h : Dv K F as v d) (e : itsOf cs d = some xs) : ∃ a ys, v = .ref a ∧ (SqL K H a ys ∨ SqT K H a ys) ∧ DvL K F as ys xs := by
  cases d with
  | tup zs =>
    cases e
    cases h with
    | tup t l => exact ⟨_, _, rfl, .inr (SqT.of (ok.fh _ _ t)), l⟩
  | _ =>
    obtain ⟨a, ys, h1, h2, h3⟩ := seq_at ok h e
    exact ⟨a, ys, h1, .inl h2, h3⟩
def opIn (neg : Bool) : D → D → M D := fun d e cs => match flatV? d, itsOf cs e with
  | some v, some xs => (match flatVs? xs with
    | some ws => .ok (.bl (if neg = true then !inV v ws else inV v ws)) cs
    | none => .no)
  | _, _ => .no
theorem od_in {K : PySem.W.Frag} {ct : Ct} (neg : Bool) : OpD K ct (rIn K neg) (opIn neg) := fun W n F H as cs x y d e Q ok hx hy h => by
  unfold opIn at h
  split at h
  · split at h
    · rename_i v xs e1 e2 _ ws e3
      obtain ⟨rfl, f1⟩ := flatV_eq hx e1
      obtain ⟨a, ys, rfl, h1, l⟩ := its_at ok hy e2
      obtain ⟨rfl, f2⟩ := flatVs_eq l e3
      exact ⟨a, _, rfl, h1, f1, f2, end_ok ok (.bl _) h⟩
    · exact False.elim h
  · exact False.elim h
/-! ### tests -/
def bVal (a : En → M D) : En → M Bool := fun env => M.bnd (a env) fun d => match d with
  | .bl b => M.ret b
  | _ => M.no
def bAnd (a b : En → M Bool) : En → M Bool := fun env => M.bnd (a env) fun k => if k = true then b env else M.ret false
def bOr (a b : En → M Bool) : En → M Bool := fun env => M.bnd (a env) fun k => if k = true then M.ret true else b env
def bNot (a : En → M Bool) : En → M Bool := fun env => M.bnd (a env) fun k => M.ret (!k)
section
variable {X : Cx} {ct : Ct} {W : WX} {a b : Expr} {rest : List Expr} {ma mb : En → M D} {ba bb : En → M Bool} {pos : Pos}
theorem bv_of {K : PySem.W.Frag} {σ : L2.St} {H : Hp} {Q : Bool → Hp → Prop} (h : tT K ct W (bVal ma) σ H Q) : tD K ct W ma σ H fun x H1 => ∃ k, x = .bl k ∧ Q k H1 := by
  obtain ⟨F, as, env, cs, ok, sl, h⟩ := h
  refine ⟨F, as, env, cs, ok, sl, out_imp (out_bnd h) fun d cs1 F1 H1 as1 g ok1 h1 v hv => ?_⟩
  split at h1
  · cases hv
    exact ⟨_, rfl, out_ok ok1 h1⟩
  · exact False.elim h1
theorem gt_val (h : PE X a (tD X.K ct W ma)) (he : ∀ whole, isTrue a X.env whole = (do let v ← whole; standAt a.pos; holding [v] (truthy v)) := by intro _; rfl) : PT X a (tT X.K ct W (bVal ma)) := PT.imp (pt_val h he) fun _ _ _ h => bv_of h
theorem gt_cmp {op : CmpOp} {r : R2} {f : D → D → M D} (ho : OpR X (compareOp op) r) (od : OpD X.K ct r f) (ha : PE X a (tD X.K ct W ma)) (hb : PE X b (tD X.K ct W mb)) (hm : behindInMarks op b = false) : PT X (.Compare a [op] [b] pos) (tT X.K ct W (bVal (xBin f ma mb))) :=
  PT.imp (pt_cmpR ho ha hb hm) fun _ _ _ h => tOp_of od (bv_of h)
theorem gt_chain {op op' : CmpOp} {r r' : R2} {f g : D → D → M D} {c : Expr} {mc : En → M D} (ho : OpR X (compareOp op) r) (od : OpD X.K ct r f) (ho' : OpR X (compareOp op') r') (od' : OpD X.K ct r' g) (ha : PE X a (tD X.K ct W ma)) (hb : PE X b (tD X.K ct W mb)) (hc : PE X c (tD X.K ct W mc))
    (hm : lastMarks [op, op'] [b, c] = false := by with_unfolding_all rfl) : PT X (.Compare a [op, op'] [b, c] pos) (tT X.K ct W (bVal (xChain f g ma mb mc))) := PT.imp (pt_chain ho ho' ha hb hc hm) fun _ _ _ h => tChain_of od od' (bv_of h)
theorem gw_and1 (h : PT X a (tT X.K ct W ba)) : PW X (.BoolOp .And [a] pos) (tT X.K ct W ba) := pw_and1 h
theorem gw_or1 (h : PT X a (tT X.K ct W ba)) : PW X (.BoolOp .Or [a] pos) (tT X.K ct W ba) := pw_or1 h
theorem PW.imp {e : Expr} {t t' : TT} (h : PW X e t) (k : ∀ σ H Q, t' σ H Q → t σ H Q) : PW X e t' := ⟨fun wh pins s σ H Q I w => h.run wh pins s σ H Q I (k σ H Q w)⟩
theorem and_of {K : PySem.W.Frag} {σ : L2.St} {H : Hp} {Q : Bool → Hp → Prop} (h : tT K ct W (bAnd ba bb) σ H Q) : tAnd (tT K ct W ba) (tT K ct W bb) σ H Q := by
  obtain ⟨F, as, env, cs, ok, sl, h⟩ := h
  refine ⟨F, as, env, cs, ok, sl, out_imp (out_bnd h) fun k cs1 F1 H1 as1 g ok1 h1 => ?_⟩
  cases k with
  | true => exact ⟨F1, as1, env, cs1, ok1, sl.gro g, h1⟩
  | false => exact out_ok ok1 h1
theorem or_of {K : PySem.W.Frag} {σ : L2.St} {H : Hp} {Q : Bool → Hp → Prop} (h : tT K ct W (bOr ba bb) σ H Q) : tOr (tT K ct W ba) (tT K ct W bb) σ H Q := by
  obtain ⟨F, as, env, cs, ok, sl, h⟩ := h
  refine ⟨F, as, env, cs, ok, sl, out_imp (out_bnd h) fun k cs1 F1 H1 as1 g ok1 h1 => ?_⟩
  cases k with
  | true => exact out_ok ok1 h1
  | false => exact ⟨F1, as1, env, cs1, ok1, sl.gro g, h1⟩
theorem gw_and (ha : PT X a (tT X.K ct W ba)) (hb : PW X (.BoolOp .And (b :: rest) pos) (tT X.K ct W bb)) : PW X (.BoolOp .And (a :: b :: rest) pos) (tT X.K ct W (bAnd ba bb)) := PW.imp (pw_and ha hb) fun _ _ _ => and_of
theorem gw_or (ha : PT X a (tT X.K ct W ba)) (hb : PW X (.BoolOp .Or (b :: rest) pos) (tT X.K ct W bb)) : PW X (.BoolOp .Or (a :: b :: rest) pos) (tT X.K ct W (bOr ba bb)) := PW.imp (pw_or ha hb) fun _ _ _ => or_of
theorem gt_not (ha : PT X a (tT X.K ct W ba)) : PT X (.UnaryOp .Not a pos) (tT X.K ct W (bNot ba)) := PT.imp (pt_not ha) (by
  rintro σ H Q ⟨F, as, env, cs, ok, sl, h⟩
  exact ⟨F, as, env, cs, ok, sl, out_imp (out_bnd h) fun k cs1 F1 H1 as1 g ok1 h1 => out_ok ok1 h1⟩)
/-! as values -/
def xAnd (a b : En → M D) : En → M D := fun env => M.bnd (a env) fun d => match d with
  | .bl true => b env
  | .bl false => M.ret (.bl false)
  | _ => M.no
def xOr (a b : En → M D) : En → M D := fun env => M.bnd (a env) fun d => match d with
  | .bl true => M.ret (.bl true)
  | .bl false => b env
  | _ => M.no
def xNot (a : En → M D) : En → M D := fun env => M.bnd (a env) fun d => match d with
  | .bl k => M.ret (.bl (!k))
  | _ => M.no
theorem ge_one {op} (h : PE X a (tD X.K ct W ma)) : PE X (.BoolOp op [a] pos) (tD X.K ct W ma) := pe_one h
theorem ge_and (ha : PE X a (tD X.K ct W ma)) (hb : PE X (.BoolOp .And (b :: rest) pos) (tD X.K ct W mb)) : PE X (.BoolOp .And (a :: b :: rest) pos) (tD X.K ct W (xAnd ma mb)) := PE.imp (pe_and ha hb) (by
  rintro σ H Q ⟨F, as, env, cs, ok, sl, h⟩
  refine ⟨F, as, env, cs, ok, sl, out_imp (out_bnd h) fun d cs1 F1 H1 as1 g ok1 h1 v hv => ?_⟩
  split at h1
  · cases hv
    exact ⟨true, rfl, F1, as1, env, cs1, ok1, sl.gro g, h1⟩
  · cases hv
    exact ⟨false, rfl, end_ok ok1 (.bl false) h1⟩
  · exact False.elim h1)
theorem ge_or (ha : PE X a (tD X.K ct W ma)) (hb : PE X (.BoolOp .Or (b :: rest) pos) (tD X.K ct W mb)) : PE X (.BoolOp .Or (a :: b :: rest) pos) (tD X.K ct W (xOr ma mb)) := PE.imp (pe_or ha hb) (by
  rintro σ H Q ⟨F, as, env, cs, ok, sl, h⟩
  refine ⟨F, as, env, cs, ok, sl, out_imp (out_bnd h) fun d cs1 F1 H1 as1 g ok1 h1 v hv => ?_⟩
  split at h1
  · cases hv
    exact ⟨true, rfl, end_ok ok1 (.bl true) h1⟩
  · cases hv
    exact ⟨false, rfl, F1, as1, env, cs1, ok1, sl.gro g, h1⟩
  · exact False.elim h1)
theorem ge_not (ha : PE X a (tD X.K ct W ma)) : PE X (.UnaryOp .Not a pos) (tD X.K ct W (xNot ma)) := PE.imp (pe_not ha) (by
  rintro σ H Q ⟨F, as, env, cs, ok, sl, h⟩
  refine ⟨F, as, env, cs, ok, sl, out_imp (out_bnd h) fun d cs1 F1 H1 as1 g ok1 h1 v hv => ?_⟩
  split at h1
  · cases hv
    exact ⟨_, rfl, end_ok ok1 (.bl _) h1⟩
  · exact False.elim h1)
end
/-! ### argument lists, displays, calls of built-ins -/
def aNil : En → M (List D) := fun _ => M.ret []
def aCons (a : En → M D) (r : En → M (List D)) : En → M (List D) := fun env => M.bnd (a env) fun d => M.bnd (r env) fun ds => M.ret (d :: ds)
def xTup (a : En → M (List D)) : En → M D := fun env => M.bnd (a env) fun ds => if szOk ds.length = true then M.ret (.tup ds) else M.no
def xLst (c : Bool) (a : En → M (List D)) : En → M D := fun env => M.bnd (a env) fun ds => if szOk ds.length = true then mkL c ds else M.no
def xCall (g : List D → M D) (a : En → M (List D)) : En → M D := fun env => M.bnd (a env) g
def CallD (K : PySem.W.Frag) (ct : Ct) (r : List V → Hp → VK → Prop) (g : List D → M D) : Prop :=
  ∀ (W : WX) (n : Nat) (F H : Hp) (as : List Addr) (cs : Cs) (xs : List V) (ds : List D) (Q : VK), Ok K F H as cs → DvL K F as xs ds → out K ct W n F H as (g ds cs) (oD K Q) → r xs H Q
section
variable {X : Cx} {ct : Ct} {W : WX} {a e : Expr} {es : List Expr} {ma : En → M D} {mas : En → M (List D)} {pos : Pos}
theorem ga_nil : PA X [] (tA X.K ct W aNil) := PA.imp pa_nil (by
  rintro σ H Q ⟨F, as, env, cs, ok, sl, h⟩
  exact out_ok ok h _ .nil)
theorem ga_cons (ha : PE X e (tD X.K ct W ma)) (hr : PA X es (tA X.K ct W mas)) (hs : starEach (e :: es) X.env = (false, eval e X.env) :: starEach es X.env := by rfl) : PA X (e :: es) (tA X.K ct W (aCons ma mas)) := PA.imp (pa_cons ha hr hs) (by
  rintro σ H Q ⟨F, as, env, cs, ok, sl, h⟩
  refine ⟨F, as, env, cs, ok, sl, out_imp (out_bnd h) fun d cs1 F1 H1 as1 g ok1 h1 v hv => ?_⟩
  refine ⟨F1, as1, env, cs1, ok1, sl.gro g, out_imp (out_bnd h1) fun ds cs2 F2 H2 as2 g2 ok2 h2 vs hvs => ?_⟩
  exact out_ok ok2 h2 _ (.cons (hv.gro g2) hvs))
theorem ge_tup {k} (h : PA X es (tA X.K ct W mas)) : PE X (.Tuple es k pos) (tD X.K ct W (xTup mas)) := PE.imp (pe_tup h) (by
  rintro σ H Q ⟨F, as, env, cs, ok, sl, h⟩
  refine ⟨F, as, env, cs, ok, sl, out_imp (out_bnd h) fun ds cs1 F1 H1 as1 g ok1 h1 vs hvs => ?_⟩
  split at h1
  · rename_i q
    exact ⟨by rw [hvs.length]; exact szOk_le q, new_tup ok1 hvs h1⟩
  · exact False.elim h1)
theorem ge_lst (c : Bool) (h : PA X es (tA X.K ct W mas)) : PE X (.List es pos) (tD X.K ct W (xLst c mas)) := PE.imp (pe_lst h) (by
  rintro σ H Q ⟨F, as, env, cs, ok, sl, h⟩
  refine ⟨F, as, env, cs, ok, sl, out_imp (out_bnd h) fun ds cs1 F1 H1 as1 g ok1 h1 vs hvs => ?_⟩
  split at h1
  · rename_i q
    exact ⟨by rw [hvs.length]; exact szOk_le q, new_mk ok1 hvs h1⟩
  · exact False.elim h1)
theorem tCB_of {K : PySem.W.Frag} {r : List V → Hp → VK → Prop} {g : List D → M D} (cd : CallD K ct r g) {σ : L2.St} {H : Hp} {Q : VK} (h : tD K ct W (xCall g mas) σ H Q) : tCB r (tA K ct W mas) σ H Q := by
  obtain ⟨F, as, env, cs, ok, sl, h⟩ := h
  exact ⟨F, as, env, cs, ok, sl, out_imp (out_bnd h) fun ds cs1 F1 H1 as1 g ok1 h1 vs hvs => cd W _ F1 H1 as1 cs1 vs ds Q ok1 hvs h1⟩
variable {x : Str} {p : Pos} {id T : String} {r : List V → Hp → VK → Prop} {g : List D → M D}
theorem ge_callB (hc : CallR X (.builtin id) r) (cd : CallD X.K ct r g) (hg : Gl X x) (hm : X.mg x = none) (hv : bootBuiltins x = some (.builtin id)) (ha : PA X (e :: es) (tA X.K ct W mas)) (hn : x ≠ "__name__" := by decide) (hdb : (x == ("__debug__" : Str)) = false := by decide)
    (he : starEach (e :: es) X.env = (false, eval e X.env) :: starEach es X.env := by rfl) (hpl : (backTo pos (starEach es X.env)).any (·.1) = false := by rfl) : PE X (.Call (.Name x p) (e :: es) [] pos) (tD X.K ct W (xCall g mas)) :=
  PE.imp (pe_callB hc hg hm hv ha hn hdb he hpl) fun _ _ _ => tCB_of cd
theorem ge_callTy (hc : CallR X (.type T) r) (cd : CallD X.K ct r g) (hg : Gl X x) (hm : X.mg x = none) (hv : bootBuiltins x = some (.type T)) (ha : PA X (e :: es) (tA X.K ct W mas)) (hn : x ≠ "__name__" := by decide) (hdb : (x == ("__debug__" : Str)) = false := by decide)
    (he : starEach (e :: es) X.env = (false, eval e X.env) :: starEach es X.env := by rfl) (hpl : (backTo pos (starEach es X.env)).any (·.1) = false := by rfl) : PE X (.Call (.Name x p) (e :: es) [] pos) (tD X.K ct W (xCall g mas)) :=
  PE.imp (pe_callTy hc hg hm hv ha hn hdb he hpl) fun _ _ _ => tCB_of cd
end
end G
/-! G2: built-ins, slices, what is walked, comprehensions. -/
namespace G
open L2 PySem PySem.Spec PyProof.Rows
/-! ### len -/
def opLen : List D → M D
  | [.str x] => if szOk x.length = true then M.ret (.int x.length) else M.no
  | [d] => fun cs => match itsOf cs d with
    | some xs => .ok (.int xs.length) cs
    | none => .no
  | _ => M.no
section
variable {K : PySem.W.Frag} {ct : Ct}
theorem dvl1 {F : Hp} {as : List Addr} {vs : List V} {d : D} (h : DvL K F as vs [d]) : ∃ v, vs = [v] ∧ Dv K F as v d := by
  cases h with
  | cons h1 h2 =>
    cases h2
    exact ⟨_, rfl, h1⟩
theorem dvl2 {F : Hp} {as : List Addr} {vs : List V} {d e : D} (h : DvL K F as vs [d, e]) : ∃ v u, vs = [v, u] ∧ Dv K F as v d ∧ Dv K F as u e := by
  cases h with
  | cons h1 h2 =>
    obtain ⟨u, rfl, h3⟩ := dvl1 h2
    exact ⟨_, u, rfl, h1, h3⟩
theorem dvl3 {F : Hp} {as : List Addr} {vs : List V} {d e f : D} (h : DvL K F as vs [d, e, f]) : ∃ v u w, vs = [v, u, w] ∧ Dv K F as v d ∧ Dv K F as u e ∧ Dv K F as w f := by
  cases h with
  | cons h1 h2 =>
    obtain ⟨u, w, rfl, h3, h4⟩ := dvl2 h2
    exact ⟨_, u, w, rfl, h1, h3, h4⟩
theorem cd_len : CallD K ct (fun xs H Q => ∃ x n, xs = [x] ∧ LenV K x H n ∧ Q (.int n) H) opLen := fun W n F H as cs vs ds Q ok hv h => by
  unfold opLen at h
  split at h
  · split at h
    · rename_i x q
      obtain ⟨v, rfl, h1⟩ := dvl1 hv
      cases h1
      exact ⟨_, x.length, rfl, ⟨szOk_le q, rfl⟩, end_ok ok (.int _) h⟩
    · exact False.elim h
  · obtain ⟨v, rfl, h1⟩ := dvl1 hv
    try dsimp only at h
    split at h
    · rename_i xs e
      obtain ⟨a, ys, rfl, h2, l⟩ := its_at ok h1 e
      refine ⟨_, ys.length, rfl, ?_, by rw [l.length]; exact end_ok ok (.int _) h⟩
      rcases h2 with h2 | h2
      · exact .inl ⟨ys, h2, rfl⟩
      · exact .inr ⟨ys, h2, rfl⟩
    · exact False.elim h
  · exact False.elim h
/-! ### max, min, abs, int -/
def opMax2 : List D → M D
  | [.int i, .int j] => M.ret (.int (if j > i then j else i))
  | _ => M.no
def opMin2 : List D → M D
  | [.int i, .int j] => M.ret (.int (if j < i then j else i))
  | _ => M.no
def opMax3 : List D → M D
  | [.int a, .int b, .int c] => M.ret (.int (if b > a then (if c > b then c else b) else (if c > a then c else a)))
  | _ => M.no
def opAbs : List D → M D
  | [.int i] => M.ret (.int (if i < 0 then -i else i))
  | _ => M.no
def opInt : List D → M D
  | [.int i] => M.ret (.int i)
  | [.bl k] => M.ret (.int (if k then 1 else 0))
  | _ => M.no
theorem cd_max2 : CallD K ct (fun xs H Q => ∃ i j, xs = [.int i, .int j] ∧ Q (.int (if j > i then j else i)) H) opMax2 := fun W n F H as cs vs ds Q ok hv h => by
  unfold opMax2 at h
  split at h
  · obtain ⟨_, _, rfl, h1, h2⟩ := dvl2 hv
    cases h1
    cases h2
    exact ⟨_, _, rfl, end_ok ok (.int _) h⟩
  · exact False.elim h
theorem cd_min2 : CallD K ct (fun xs H Q => ∃ i j, xs = [.int i, .int j] ∧ Q (.int (if j < i then j else i)) H) opMin2 := fun W n F H as cs vs ds Q ok hv h => by
  unfold opMin2 at h
  split at h
  · obtain ⟨_, _, rfl, h1, h2⟩ := dvl2 hv
    cases h1
    cases h2
    exact ⟨_, _, rfl, end_ok ok (.int _) h⟩
  · exact False.elim h
theorem cr_max3 {X : Cx} (hc : X.calm = true) : CallR X (.builtin "max") (fun xs H Q => ∃ a b c, xs = [.int a, .int b, .int c] ∧ Q (.int (if b > a then (if c > b then c else b) else (if c > a then c else a))) H) := by
  intro pins s σ H xs us Q I r h
  obtain ⟨a, b, c, rfl, q⟩ := h
  cases r with
  | cons r1 r =>
    obtain ⟨u2, u3, rfl, ⟨t2, rfl⟩, ⟨t3, rfl⟩⟩ := vals2 r
    obtain ⟨t1, rfl⟩ := r1
    refine PySem.max_three_ints (I.ok.hd hc) fun h' tk k => ⟨_, H, I.kept k, ?_, q⟩
    by_cases hba : b > a <;> by_cases hc1 : c > b <;> by_cases hc2 : c > a <;> simp only [hba, hc1, hc2, if_true, if_false] <;> exact ⟨_, rfl⟩
theorem cd_max3 : CallD K ct (fun xs H Q => ∃ a b c, xs = [.int a, .int b, .int c] ∧ Q (.int (if b > a then (if c > b then c else b) else (if c > a then c else a))) H) opMax3 := fun W n F H as cs vs ds Q ok hv h => by
  unfold opMax3 at h
  split at h
  · obtain ⟨_, _, _, rfl, h1, h2, h3⟩ := dvl3 hv
    cases h1
    cases h2
    cases h3
    exact ⟨_, _, _, rfl, end_ok ok (.int _) h⟩
  · exact False.elim h
theorem cd_abs : CallD K ct (fun xs H Q => ∃ i, xs = [.int i] ∧ Q (.int (if i < 0 then -i else i)) H) opAbs := fun W n F H as cs vs ds Q ok hv h => by
  unfold opAbs at h
  split at h
  · obtain ⟨_, rfl, h1⟩ := dvl1 hv
    cases h1
    exact ⟨_, rfl, end_ok ok (.int _) h⟩
  · exact False.elim h
theorem cd_int : CallD K ct (fun xs H Q => (∃ i, xs = [.int i] ∧ Q (.int i) H) ∨ ∃ k, xs = [.bl k] ∧ Q (.int (if k then 1 else 0)) H) opInt := fun W n F H as cs vs ds Q ok hv h => by
  unfold opInt at h
  split at h
  · obtain ⟨_, rfl, h1⟩ := dvl1 hv
    cases h1
    exact .inl ⟨_, rfl, end_ok ok (.int _) h⟩
  · obtain ⟨_, rfl, h1⟩ := dvl1 hv
    cases h1
    exact .inr ⟨_, rfl, end_ok ok (.int _) h⟩
  · exact False.elim h
/-! ### list(xs), tuple(xs) -/
def opList (c : Bool) : List D → M D
  | [d] => fun cs => match itsOf cs d with
    | some xs => mkL c xs cs
    | none => .no
  | _ => M.no
def opTuple : List D → M D
  | [d] => fun cs => match seqOf cs d with
    | some xs => .ok (.tup xs) cs
    | none => .no
  | _ => M.no
theorem cd_list (c : Bool) : CallD K ct (fun xs H Q => ∃ p ys, xs = [.ref p] ∧ (SqL K H p ys ∨ SqT K H p ys) ∧ ∀ l, H l = none → Q (.ref l) (upd H l (.lst ys))) (opList c) := fun W n F H as cs vs ds Q ok hv h => by
  unfold opList at h
  split at h
  · obtain ⟨v, rfl, h1⟩ := dvl1 hv
    try dsimp only at h
    split at h
    · rename_i xs e
      obtain ⟨a, ys, rfl, h2, l⟩ := its_at ok h1 e
      exact ⟨a, ys, rfl, h2, new_mk ok l h⟩
    · exact False.elim h
  · exact False.elim h
theorem cd_tuple : CallD K ct (fun xs H Q => ∃ p ys, xs = [.ref p] ∧ ((SqL K H p ys ∧ ∀ l, H l = none → Q (.ref l) (upd H l (.tup ys))) ∨ (SqT K H p ys ∧ Q (.ref p) H))) opTuple := fun W n F H as cs vs ds Q ok hv h => by
  unfold opTuple at h
  split at h
  · obtain ⟨v, rfl, h1⟩ := dvl1 hv
    try dsimp only at h
    split at h
    · rename_i xs e
      obtain ⟨a, ys, rfl, h2, l⟩ := seq_at ok h1 e
      exact ⟨a, ys, rfl, .inl ⟨h2, new_tup ok l h⟩⟩
    · exact False.elim h
  · exact False.elim h
/-! ### sum, all -/
def intsOf : List D → Option (List Int)
  | [] => some []
  | .int i :: r => (intsOf r).map (i :: ·)
  | _ => none
def blsOf : List D → Option (List Bool)
  | [] => some []
  | .bl i :: r => (blsOf r).map (i :: ·)
  | _ => none
theorem intsOf_eq {F : Hp} {as : List Addr} : ∀ {vs : List V} {ds : List D} {ns : List Int}, DvL K F as vs ds → intsOf ds = some ns → vs = ns.map V.int
  | _, _, _, .nil, e => by
    cases e
    rfl
  | _, _, ns, .cons (d := d) (ds := ds) h t, e => by
    cases h with
    | int i =>
      have e2 : (intsOf ds).map (i :: ·) = some ns := e
      cases q : intsOf ds with
      | none =>
        rw [q] at e2
        cases e2
      | some r =>
        rw [q] at e2
        cases e2
        rw [intsOf_eq t q]
        rfl
    | _ => cases e
theorem blsOf_eq {F : Hp} {as : List Addr} : ∀ {vs : List V} {ds : List D} {ns : List Bool}, DvL K F as vs ds → blsOf ds = some ns → vs = ns.map V.bl
  | _, _, _, .nil, e => by
    cases e
    rfl
  | _, _, ns, .cons (d := d) (ds := ds) h t, e => by
    cases h with
    | bl i =>
      have e2 : (blsOf ds).map (i :: ·) = some ns := e
      cases q : blsOf ds with
      | none =>
        rw [q] at e2
        cases e2
      | some r =>
        rw [q] at e2
        cases e2
        rw [blsOf_eq t q]
        rfl
    | _ => cases e
def opSum : List D → M D
  | [d] => fun cs => match (seqOf cs d).bind intsOf with
    | some ns => .ok (.int ns.sum) cs
    | none => .no
  | _ => M.no
def opAll : List D → M D
  | [d] => fun cs => match (seqOf cs d).bind blsOf with
    | some bs => .ok (.bl (bs.all id)) cs
    | none => .no
  | _ => M.no
theorem cd_sum : CallD K ct (rSum K) opSum := fun W n F H as cs vs ds Q ok hv h => by
  unfold opSum at h
  split at h
  · obtain ⟨v, rfl, h1⟩ := dvl1 hv
    try dsimp only at h
    split at h
    · rename_i ns e
      obtain ⟨xs, e1, e2⟩ := Option.bind_eq_some_iff.mp e
      obtain ⟨a, ys, rfl, h2, l⟩ := seq_at ok h1 e1
      rw [intsOf_eq l e2] at h2
      exact ⟨a, ns, rfl, h2, end_ok ok (.int _) h⟩
    · exact False.elim h
  · exact False.elim h
theorem cd_all : CallD K ct (rAll K) opAll := fun W n F H as cs vs ds Q ok hv h => by
  unfold opAll at h
  split at h
  · obtain ⟨v, rfl, h1⟩ := dvl1 hv
    try dsimp only at h
    split at h
    · rename_i ns e
      obtain ⟨xs, e1, e2⟩ := Option.bind_eq_some_iff.mp e
      obtain ⟨a, ys, rfl, h2, l⟩ := seq_at ok h1 e1
      rw [blsOf_eq l e2] at h2
      exact ⟨a, ns, rfl, h2, end_ok ok (.bl _) h⟩
    · exact False.elim h
  · exact False.elim h
/-! ### sorted, of pairs of ints -/
def pairD (p : Int × Int) : D := .tup [.int p.1, .int p.2]
def pairsOf : List D → Option (List (Int × Int))
  | [] => some []
  | .tup [.int i, .int j] :: r => (pairsOf r).map ((i, j) :: ·)
  | _ => none
theorem pairsOf_map : ∀ {ds : List D} {ps : List (Int × Int)}, pairsOf ds = some ps → ds = ps.map pairD
  | [], ps, e => by
    cases e
    rfl
  | .tup [.int i, .int j] :: r, ps, e => by
    have e2 : (pairsOf r).map ((i, j) :: ·) = some ps := e
    cases q : pairsOf r with
    | none =>
      rw [q] at e2
      cases e2
    | some s =>
      rw [q] at e2
      cases e2
      rw [pairsOf_map q]
      rfl
  | .non :: _, _, e | .bl _ :: _, _, e | .int _ :: _, _, e | .str _ :: _, _, e | .lst _ :: _, _, e | .ref _ :: _, _, e | .dic :: _, _, e | .scr _ :: _, _, e => by cases e
  | .tup [] :: _, _, e | .tup [_] :: _, _, e | .tup (_ :: _ :: _ :: _) :: _, _, e => by
    first
      | cases e
      | (simp [pairsOf] at e)
  | .tup [.int _, .non] :: _, _, e | .tup [.int _, .bl _] :: _, _, e | .tup [.int _, .str _] :: _, _, e | .tup [.int _, .tup _] :: _, _, e | .tup [.int _, .lst _] :: _, _, e | .tup [.int _, .ref _] :: _, _, e | .tup [.int _, .dic] :: _, _, e | .tup [.int _, .scr _] :: _, _, e => by cases e
  | .tup [.non, _] :: _, _, e | .tup [.bl _, _] :: _, _, e | .tup [.str _, _] :: _, _, e | .tup [.tup _, _] :: _, _, e | .tup [.lst _, _] :: _, _, e | .tup [.ref _, _] :: _, _, e | .tup [.dic, _] :: _, _, e | .tup [.scr _, _] :: _, _, e => by cases e
/-- lexicographic -/
def lexLe (p q : Int × Int) : Bool := decide (p.1 < q.1 ∨ (p.1 = q.1 ∧ p.2 ≤ q.2))
def insP (p : Int × Int) : List (Int × Int) → List (Int × Int)
  | [] => [p]
  | q :: r => if lexLe p q = true then p :: q :: r else q :: insP p r
def sortP : List (Int × Int) → List (Int × Int)
  | [] => []
  | p :: r => insP p (sortP r)
theorem lexLe_total (p q : Int × Int) (h : ¬ lexLe p q = true) : lexLe q p = true := by
  unfold lexLe at h ⊢
  rw [decide_eq_true_eq] at h ⊢
  omega
theorem lexLe_trans {p q r : Int × Int} (h : lexLe p q = true) (h2 : lexLe q r = true) : lexLe p r = true := by
  unfold lexLe at h h2 ⊢
  rw [decide_eq_true_eq] at h h2 ⊢
  omega
theorem lexLe_anti {p q : Int × Int} (h : lexLe p q = true) (h2 : lexLe q p = true) : p = q := by
  unfold lexLe at h h2
  rw [decide_eq_true_eq] at h h2
  exact Prod.ext (by omega) (by omega)
theorem insP_perm (p : Int × Int) : ∀ l, (insP p l).Perm (p :: l)
  | [] => List.Perm.refl _
  | q :: r => by
    unfold insP
    split
    · exact List.Perm.refl _
    · exact ((insP_perm p r).cons q).trans (List.Perm.swap p q r)
theorem sortP_perm : ∀ l, (sortP l).Perm l
  | [] => List.Perm.refl _
  | p :: r => (insP_perm p (sortP r)).trans ((sortP_perm r).cons p)
theorem insP_sorted (p : Int × Int) : ∀ l, l.Pairwise (fun a b => lexLe a b = true) → (insP p l).Pairwise fun a b => lexLe a b = true
  | [], _ => List.pairwise_singleton _ _
  | q :: r, h => by
    unfold insP
    split
    · rename_i hp
      refine List.pairwise_cons.mpr ⟨fun x hx => ?_, h⟩
      rcases List.mem_cons.mp hx with e | e
      · rw [e]
        exact hp
      · exact lexLe_trans hp ((List.pairwise_cons.mp h).1 x e)
    · rename_i hp
      refine List.pairwise_cons.mpr ⟨fun x hx => ?_, insP_sorted p r (List.pairwise_cons.mp h).2⟩
      rcases List.mem_cons.mp ((insP_perm p r).mem_iff.mp hx) with e | e
      · rw [e]
        exact lexLe_total p q hp
      · exact (List.pairwise_cons.mp h).1 x e
theorem sortP_sorted : ∀ l, (sortP l).Pairwise fun a b => lexLe a b = true
  | [] => List.Pairwise.nil
  | p :: r => insP_sorted p _ (sortP_sorted r)
theorem sorted_one : ∀ {l m : List (Int × Int)}, l.Perm m → l.Pairwise (fun a b => lexLe a b = true) → m.Pairwise (fun a b => lexLe a b = true) → l = m
  | [], m, p, _, _ => (List.nil_perm.mp p).symm
  | a :: l, [], p, _, _ => absurd p.length_eq (by simp)
  | a :: l, b :: m, p, h1, h2 => by
    have e : a = b := by
      have ha : a ∈ b :: m := p.mem_iff.mp List.mem_cons_self
      have hb : b ∈ a :: l := p.mem_iff.mpr List.mem_cons_self
      rcases List.mem_cons.mp ha with z | z
      · exact z
      · rcases List.mem_cons.mp hb with y | y
        · exact y.symm
        · exact lexLe_anti ((List.pairwise_cons.mp h1).1 b y) ((List.pairwise_cons.mp h2).1 a z)
    subst e
    rw [sorted_one ((List.perm_cons a).mp p) (List.pairwise_cons.mp h1).2 (List.pairwise_cons.mp h2).2]
def opSorted (c : Bool) : List D → M D
  | [d] => fun cs => match (seqOf cs d).bind pairsOf with
    | some ps => mkL c ((sortP ps).map pairD) cs
    | none => .no
  | _ => M.no
theorem cd_sorted (c : Bool) : CallD K ct (rSortedPO K) (opSorted c) := fun W n F H as cs vs ds Q ok hv h => by
  unfold opSorted at h
  split at h
  · obtain ⟨v, rfl, h1⟩ := dvl1 hv
    try dsimp only at h
    split at h
    · rename_i ps e
      obtain ⟨xs, e1, e2⟩ := Option.bind_eq_some_iff.mp e
      obtain ⟨a, ys, rfl, h2, l⟩ := seq_at ok h1 e1
      have ex := pairsOf_map e2
      -- each item's pair
      have key : ∀ y ∈ ys, ∃ p : Int × Int, p ∈ ps ∧ ∃ t, y = V.ref t ∧ F t = some (.tup [.int p.1, .int p.2]) := fun y hy => by
        obtain ⟨i, hi⟩ := List.mem_iff_getElem?.mp hy
        obtain ⟨d, hd, hv⟩ := l.getV hi
        rw [ex, List.getElem?_map] at hd
        cases q : ps[i]? with
        | none =>
          rw [q] at hd
          cases hd
        | some p =>
          rw [q] at hd
          have ed : pairD p = d := Option.some.inj hd
          subst ed
          cases hv with
          | tup ht hl =>
            obtain ⟨u1, u2, rfl, w1, w2⟩ := dvl2 hl
            cases w1
            cases w2
            exact ⟨p, List.mem_of_getElem? q, _, rfl, ht⟩
      let k : V → Int × Int := fun y => match y with
        | .ref t => (match F t with
          | some (.tup [.int i, .int j]) => (i, j)
          | _ => (0, 0))
        | _ => (0, 0)
      have hk : ∀ t i j, F t = some (.tup [.int i, .int j]) → k (.ref t) = (i, j) := fun t i j e => by
        show (match F t with
          | some (.tup [.int i, .int j]) => (i, j)
          | _ => (0, 0)) = (i, j)
        rw [e]
      have hmap : ys.map k = ps := by
        apply List.ext_getElem?
        intro i
        rw [List.getElem?_map]
        cases q : ys[i]? with
        | none =>
          have hl := l.length
          rw [ex, List.length_map] at hl
          have : ys.length ≤ i := List.getElem?_eq_none_iff.mp q
          rw [List.getElem?_eq_none (by omega)]
          rfl
        | some y =>
          obtain ⟨d, hd, hv⟩ := l.getV q
          rw [ex, List.getElem?_map] at hd
          cases q2 : ps[i]? with
          | none =>
            rw [q2] at hd
            cases hd
          | some p =>
            rw [q2] at hd
            have ed : pairD p = d := Option.some.inj hd
            subst ed
            cases hv with
            | tup ht hl =>
              obtain ⟨u1, u2, rfl, w1, w2⟩ := dvl2 hl
              cases w1
              cases w2
              rw [Option.map_some, hk _ _ _ ht]
      refine ⟨a, ys, k, rfl, h2, fun y hy => ?_, fun zs p hs hb hp => ?_⟩
      · obtain ⟨q, _, t, rfl, ht⟩ := key y hy
        exact ⟨t, rfl, by rw [hk _ _ _ ht]; exact ok.fh _ _ ht⟩
      · have hz : zs.map k = sortP ps := by
          refine sorted_one ((hb.perm.map k).trans (by rw [hmap]; exact (sortP_perm ps).symm)) ?_ (sortP_sorted ps)
          rw [List.pairwise_map]
          refine List.Pairwise.imp (fun {x y} hxy => ?_) hs
          have := SrtO.lexB_no.mp hxy
          unfold lexLe
          rw [decide_eq_true_eq]
          omega
        have hd : DvL K F as zs ((sortP ps).map pairD) := by
          rw [← hz, List.map_map]
          have sub : ∀ y ∈ zs, ∃ p : Int × Int, p ∈ ps ∧ ∃ t, y = V.ref t ∧ F t = some (.tup [.int p.1, .int p.2]) := fun y hy => key y (hb.perm.mem_iff.mp hy)
          clear hs hb hz
          induction zs with
          | nil => exact .nil
          | cons y r ih =>
            refine .cons ?_ (ih fun y hy => sub y (List.mem_cons_of_mem _ hy))
            obtain ⟨q, _, t, rfl, ht⟩ := sub y List.mem_cons_self
            show Dv K F as (.ref t) (pairD (k (.ref t)))
            rw [hk _ _ _ ht]
            exact .tup ht (.cons (.int _) (.cons (.int _) .nil))
        exact new_mk ok hd h p hp
    · exact False.elim h
  · exact False.elim h
end
/-! ### join -/
def strsOf : List D → Option (List Str)
  | [] => some []
  | .str i :: r => (strsOf r).map (i :: ·)
  | _ => none
section
variable {K : PySem.W.Frag} {ct : Ct}
theorem strsOf_eq {F : Hp} {as : List Addr} : ∀ {vs : List V} {ds : List D} {ns : List Str}, DvL K F as vs ds → strsOf ds = some ns → vs = ns.map V.str
  | _, _, _, .nil, e => by
    cases e
    rfl
  | _, _, ns, .cons (d := d) (ds := ds) h t, e => by
    cases h with
    | str i =>
      have e2 : (strsOf ds).map (i :: ·) = some ns := e
      cases q : strsOf ds with
      | none =>
        rw [q] at e2
        cases e2
      | some r =>
        rw [q] at e2
        cases e2
        rw [strsOf_eq t q]
        rfl
    | _ => cases e
end
def opJoin (a : Str) : D → M D := fun d cs => match (seqOf cs d).bind strsOf with
  | some ys => if szOk ((ys.map (·.length)).sum + ys.length * a.length) = true then .ok (.str (Txt.join a ys)) cs else .no
  | none => .no
section
variable {X : Cx} {ct : Ct} {W : WX} {a e : Expr} {ma me : En → M D} {pos apos : Pos}
theorem ge_join {z : Str} {j : Nat} {zp : Pos} (he : PE X e (tD X.K ct W me)) (hs : starEach [e] X.env = [(false, eval e X.env)] := by rfl) (hbase : attributeBase (.Constant (.str z) j zp) "join" X.env (eval (.Constant (.str z) j zp) X.env) = eval (.Constant (.str z) j zp) X.env := by rfl) (hline : (apos.endLine == pos.line) = true := by rfl) :
    PE X (.Call (.Attribute (.Constant (.str z) j zp) "join" apos) [e] [] pos) (tD X.K ct W (xUn (opJoin z) me)) := PE.imp (pe_join pe_str he hs hbase hline) (by
  rintro σ H Q ⟨F, as, env, cs, ok, sl, h⟩
  refine ⟨⟨z, rfl⟩, F, as, env, cs, ok, sl, out_imp (out_bnd h) fun f cs2 F2 H2 as2 g2 ok2 h2 u hu => ?_⟩
  unfold opJoin at h2
  split at h2
  · rename_i ys q
    split at h2
    · rename_i q2
      obtain ⟨xs, e1, e2⟩ := Option.bind_eq_some_iff.mp q
      obtain ⟨p, zs, rfl, h3, l⟩ := seq_at ok2 hu e1
      rw [strsOf_eq l e2] at h3
      exact ⟨z, p, ys, rfl, rfl, .inl h3, Nat.le_trans (of_decide_eq_true q2) (by decide), end_ok ok2 (.str _) h2⟩
    · exact False.elim h2
  · exact False.elim h2)
/-! ### isinstance -/
inductive Ty where
  | int | bool | str | tuple | list
def Ty.nm : Ty → String
  | .int => "int"
  | .bool => "bool"
  | .str => "str"
  | .tuple => "tuple"
  | .list => "list"
def isD : Ty → D → Bool
  | .int, .int _ => true
  | .int, .bl _ => true
  | .bool, .bl _ => true
  | .str, .str _ => true
  | .tuple, .tup _ => true
  | .list, .lst _ => true
  | .list, .ref _ => true
  | .list, .scr _ => true
  | _, _ => false
def tyN : D → String
  | .non => "NoneType"
  | .bl _ => "bool"
  | .int _ => "int"
  | .str _ => "str"
  | .tup _ => "tuple"
  | .dic => "dict"
  | _ => "list"
theorem kit_non : ∀ T : Ty, kitB (tyN .non) T.nm = some (isD T .non)
  | .int => by decide +kernel
  | .bool => by decide +kernel
  | .str => by decide +kernel
  | .tuple => by decide +kernel
  | .list => by decide +kernel
theorem kit_bl : ∀ T : Ty, kitB (tyN (.bl true)) T.nm = some (isD T (.bl true))
  | .int => by decide +kernel
  | .bool => by decide +kernel
  | .str => by decide +kernel
  | .tuple => by decide +kernel
  | .list => by decide +kernel
theorem kit_int : ∀ T : Ty, kitB (tyN (.int 0)) T.nm = some (isD T (.int 0))
  | .int => by decide +kernel
  | .bool => by decide +kernel
  | .str => by decide +kernel
  | .tuple => by decide +kernel
  | .list => by decide +kernel
theorem kit_str : ∀ T : Ty, kitB (tyN (.str Str.empty)) T.nm = some (isD T (.str Str.empty))
  | .int => by decide +kernel
  | .bool => by decide +kernel
  | .str => by decide +kernel
  | .tuple => by decide +kernel
  | .list => by decide +kernel
theorem kit_tup : ∀ T : Ty, kitB (tyN (.tup [])) T.nm = some (isD T (.tup []))
  | .int => by decide +kernel
  | .bool => by decide +kernel
  | .str => by decide +kernel
  | .tuple => by decide +kernel
  | .list => by decide +kernel
theorem kit_lst : ∀ T : Ty, kitB (tyN (.lst [])) T.nm = some (isD T (.lst []))
  | .int => by decide +kernel
  | .bool => by decide +kernel
  | .str => by decide +kernel
  | .tuple => by decide +kernel
  | .list => by decide +kernel
theorem kit_ref : ∀ T : Ty, kitB (tyN (.ref 0)) T.nm = some (isD T (.ref 0))
  | .int => by decide +kernel
  | .bool => by decide +kernel
  | .str => by decide +kernel
  | .tuple => by decide +kernel
  | .list => by decide +kernel
theorem kit_dic : ∀ T : Ty, kitB (tyN .dic) T.nm = some (isD T .dic)
  | .int => by decide +kernel
  | .bool => by decide +kernel
  | .str => by decide +kernel
  | .tuple => by decide +kernel
  | .list => by decide +kernel
theorem kit_scr : ∀ T : Ty, kitB (tyN (.scr [])) T.nm = some (isD T (.scr []))
  | .int => by decide +kernel
  | .bool => by decide +kernel
  | .str => by decide +kernel
  | .tuple => by decide +kernel
  | .list => by decide +kernel
theorem kit_isD (T : Ty) (d : D) : kitB (tyN d) T.nm = some (isD T d) := by
  cases d with
  | non => exact (kit_non T).trans (by cases T <;> rfl)
  | bl _ => exact (kit_bl T).trans (by cases T <;> rfl)
  | int _ => exact (kit_int T).trans (by cases T <;> rfl)
  | str _ => exact (kit_str T).trans (by cases T <;> rfl)
  | tup _ => exact (kit_tup T).trans (by cases T <;> rfl)
  | lst _ => exact (kit_lst T).trans (by cases T <;> rfl)
  | ref _ => exact (kit_ref T).trans (by cases T <;> rfl)
  | dic => exact (kit_dic T).trans (by cases T <;> rfl)
  | scr _ => exact (kit_scr T).trans (by cases T <;> rfl)
theorem tyX_of {K : PySem.W.Frag} {F H : Hp} {as : List Addr} {cs : Cs} {v : V} {d : D} (ok : Ok K F H as cs) (h : Dv K F as v d) : TyX K H v (.type (tyN d)) := by
  cases h with
  | non => exact .base .non
  | bl b => exact .base (.bl b)
  | int i => exact .base (.int i)
  | str x => exact .base (.str x)
  | tup h _ => exact .base (.tup (ok.fh _ _ h))
  | lst h _ => exact .base (.lst (ok.fh _ _ h))
  | ref h =>
    obtain ⟨_, ys, h2⟩ := ok.old (List.mem_of_getElem? h)
    exact .base (.lst h2)
  | dic h => exact .base (.dK (ok.fh _ _ h))
  | scr h =>
    rcases ext_l ok.fh h with (h | ⟨o, h⟩) | ⟨o, its, n, h1, h2, _⟩
    · exact .base (.lst h)
    · exact .base (.frz h)
    · exact .kList h1 h2
def opIs (T : Ty) : D → M D := fun d => M.ret (.bl (isD T d))
theorem ge_isi {T : Ty} {x : Str} {p p2 : Pos} (hg : Gl X "isinstance") (hm : X.mg "isinstance" = none) (hg2 : Gl X x) (hm2 : X.mg x = none) (hv2 : bootBuiltins x = some (.type T.nm)) (he : PE X e (tD X.K ct W me)) (hn : x ≠ "__name__" := by decide) (hdb : (x == ("__debug__" : Str)) = false := by decide)
    (hs : starEach [e, .Name x p2] X.env = (false, eval e X.env) :: starEach [.Name x p2] X.env := by rfl) (hs2 : starEach [.Name x p2] X.env = (false, eval (.Name x p2) X.env) :: starEach [] X.env := by rfl) (hpl : (backTo pos (starEach [.Name x p2] X.env)).any (·.1) = false := by rfl) :
    PE X (.Call (.Name "isinstance" p) [e, .Name x p2] [] pos) (tD X.K ct W (xUn (opIs T) me)) := PE.imp (pe_callB call_isi hg hm (by decide +kernel) (pa_cons he (pa_cons (pe_bltn (v := .ty T.nm) hg2 hm2 hv2 rfl hn hdb) pa_nil hs2) hs) (by decide) (by decide) hs hpl) (by
  rintro σ H Q ⟨F, as, env, cs, ok, sl, h⟩
  refine ⟨F, as, env, cs, ok, sl, out_imp (out_bnd h) fun d cs1 F1 H1 as1 g ok1 h1 v hv => ?_⟩
  exact ⟨v, .ty T.nm, .type (tyN d), .type T.nm, isD T d, rfl, .ty _, tyX_of ok1 hv, kit_ty (kit_isD T d), end_ok ok1 (.bl _) h1⟩)
/-! ### slices -/
def cutD (xs : List D) (lo hi : Option Int) : List D := (xs.drop (HT.sIx xs.length 0 lo)).take (HT.sIx xs.length xs.length hi - HT.sIx xs.length 0 lo)
theorem DvL.cut {K : PySem.W.Frag} {F : Hp} {as : List Addr} {vs : List V} {ds : List D} (h : DvL K F as vs ds) (lo hi : Option Int) : DvL K F as (cutV vs lo hi) (cutD ds lo hi) := by
  unfold cutV cutD
  rw [h.length]
  exact (h.drop _).take _
/-- a slice's part -/
def pNo : En → M (Option Int) := fun _ => M.ret none
def pSome (a : En → M D) : En → M (Option Int) := fun env => M.bnd (a env) fun d => match d with
  | .int i => M.ret (some i)
  | _ => M.no
def tO (K : PySem.W.Frag) (ct : Ct) (W : WX) (m : En → M (Option Int)) : TO := fun σ H Q => ∃ F as env cs, Ok K F H as cs ∧ Sl K F as σ env ∧ out K ct W σ.length F H as (m env cs) fun o _ _ H' _ => Q o H'
theorem PO.imp {o : Option Expr} {t t' : TO} (h : PO X o t) (k : ∀ σ H Q, t' σ H Q → t σ H Q) : PO X o t' := ⟨fun pins s σ H Q I w => h.run pins s σ H Q I (k σ H Q w)⟩
theorem go_no : PO X none (tO X.K ct W pNo) := PO.imp po_none (by
  rintro σ H Q ⟨F, as, env, cs, ok, sl, h⟩
  exact out_ok ok h)
theorem go_some (h : PE X e (tD X.K ct W me)) : PO X (some e) (tO X.K ct W (pSome me)) := PO.imp (po_some h) (by
  rintro σ H Q ⟨F, as, env, cs, ok, sl, h⟩
  refine ⟨F, as, env, cs, ok, sl, out_imp (out_bnd h) fun d cs1 F1 H1 as1 g ok1 h1 v hv => ?_⟩
  split at h1
  · cases hv
    exact ⟨_, rfl, out_ok ok1 h1⟩
  · exact False.elim h1)
def xSl (c : Bool) (a : En → M D) (lo hi : En → M (Option Int)) : En → M D := fun env => M.bnd (a env) fun d => M.bnd (lo env) fun l => M.bnd (hi env) fun u => fun cs => match seqOf cs d with
  | some xs => mkL c (cutD xs l u) cs
  | none => .no
theorem ge_sl (c : Bool) {lo hi : Option Expr} {ml mh : En → M (Option Int)} {p2 : Pos} (he : PE X e (tD X.K ct W me)) (hl : PO X lo (tO X.K ct W ml)) (hh : PO X hi (tO X.K ct W mh)) : PE X (.Subscript e (.Slice lo hi none p2) pos) (tD X.K ct W (xSl c me ml mh)) := PE.imp (pe_slice sl_list he hl hh) (by
  rintro σ H Q ⟨F, as, env, cs, ok, sl, h⟩
  refine ⟨F, as, env, cs, ok, sl, out_imp (out_bnd h) fun d cs1 F1 H1 as1 g1 ok1 h1 v hv => ?_⟩
  refine ⟨F1, as1, env, cs1, ok1, sl.gro g1, out_imp (out_bnd h1) fun l cs2 F2 H2 as2 g2 ok2 h2 => ?_⟩
  refine ⟨F2, as2, env, cs2, ok2, (sl.gro g1).gro g2, out_imp (out_bnd h2) fun u cs3 F3 H3 as3 g3 ok3 h3 => ?_⟩
  try dsimp only at h3
  split at h3
  · rename_i xs q
    obtain ⟨a, ys, rfl, h4, lk⟩ := seq_at ok3 ((hv.gro g2).gro g3) q
    exact ⟨a, ys, rfl, h4, new_mk ok3 (lk.cut l u) h3⟩
  · exact False.elim h3)
/-- xs[::-1] -/
def opRev (c : Bool) : D → M D := fun d cs => match seqOf cs d with
  | some xs => mkL c xs.reverse cs
  | none => .no
theorem ge_rev (c : Bool) {k : Nat} {p1 p2 p3 : Pos} (he : PE X e (tD X.K ct W me)) : PE X (.Subscript e (.Slice none none (some (.UnaryOp .USub (.Constant (.int 1) k p1) p2)) p3) pos) (tD X.K ct W (xUn (opRev c) me)) := PE.imp (pe_revL he) (by
  rintro σ H Q ⟨F, as, env, cs, ok, sl, h⟩
  refine ⟨F, as, env, cs, ok, sl, out_imp (out_bnd h) fun d cs1 F1 H1 as1 g1 ok1 h1 v hv => ?_⟩
  unfold opRev at h1
  split at h1
  · rename_i xs q
    obtain ⟨a, ys, rfl, h4, lk⟩ := seq_at ok1 hv q
    exact ⟨a, ys, rfl, h4, new_mk ok1 lk.rev h1⟩
  · exact False.elim h1)
/-! ### list(range(..)), tuple(range(..)) -/
def rngD (a : Int) (n : Nat) : List D := (List.range n).map fun i => .int (a + (i : Nat))
theorem rng_dv {K : PySem.W.Frag} {F : Hp} {as : List Addr} (a b : Int) : DvL K F as (rgV a b) (rngD a (b - a).toNat) := by
  unfold rgV rngD
  generalize List.range (b - a).toNat = l
  induction l with
  | nil => exact .nil
  | cons i r ih => exact .cons (.int _) ih
def rgOk (a b : Int) : Bool := decide (-(2 ^ 62) ≤ a ∧ a < 2 ^ 62 ∧ -(2 ^ 62) ≤ b ∧ b < 2 ^ 62) && szOk (b - a).toNat
theorem rgOk_ok {a b : Int} (h : rgOk a b = true) : RgOk a b := by
  obtain ⟨h1, h2⟩ := Bool.and_eq_true_iff.mp h
  obtain ⟨h3, h4, h5, h6⟩ := of_decide_eq_true h1
  exact ⟨h3, h4, h5, h6, Nat.le_trans (of_decide_eq_true h2) (by decide)⟩
def opRg (tu c : Bool) : D → M D
  | .int b => if rgOk 0 b = true then (if tu = true then M.ret (.tup (rngD 0 (b - 0).toNat)) else mkL c (rngD 0 (b - 0).toNat)) else M.no
  | _ => M.no
theorem ge_listRg (c : Bool) {p p2 p3 : Pos} (hc : X.calm = true) (hg : Gl X "list") (hm : X.mg "list" = none) (hg2 : Gl X "range") (hm2 : X.mg "range" = none) (he : PE X e (tD X.K ct W me)) (na : starEach [e] X.env = (false, eval e X.env) :: starEach [] X.env := by rfl)
    (nb : starEach [.Call (.Name "range" p2) [e] [] p3] X.env = (false, eval (.Call (.Name "range" p2) [e] [] p3) X.env) :: starEach [] X.env := by rfl) : PE X (.Call (.Name "list" p) [.Call (.Name "range" p2) [e] [] p3] [] pos) (tD X.K ct W (xUn (opRg false c) me)) := PE.imp (pe_listRg hc hg hm (prg_1 hg2 hm2 he na) nb) (by
  rintro σ H Q ⟨F, as, env, cs, ok, sl, h⟩
  refine ⟨F, as, env, cs, ok, sl, out_imp (out_bnd h) fun d cs1 F1 H1 as1 g1 ok1 h1 v hv => ?_⟩
  unfold opRg at h1
  split at h1
  · split at h1
    · rename_i b q
      cases hv
      exact ⟨b, rfl, rgOk_ok q, new_mk ok1 (rng_dv 0 b) h1⟩
    · exact False.elim h1
  · exact False.elim h1)
theorem ge_tupRg {p p2 p3 : Pos} (hc : X.calm = true) (hg : Gl X "tuple") (hm : X.mg "tuple" = none) (hg2 : Gl X "range") (hm2 : X.mg "range" = none) (he : PE X e (tD X.K ct W me)) (na : starEach [e] X.env = (false, eval e X.env) :: starEach [] X.env := by rfl)
    (nb : starEach [.Call (.Name "range" p2) [e] [] p3] X.env = (false, eval (.Call (.Name "range" p2) [e] [] p3) X.env) :: starEach [] X.env := by rfl) : PE X (.Call (.Name "tuple" p) [.Call (.Name "range" p2) [e] [] p3] [] pos) (tD X.K ct W (xUn (opRg true false) me)) := PE.imp (pe_tupRg hc hg hm (prg_1 hg2 hm2 he na) nb) (by
  rintro σ H Q ⟨F, as, env, cs, ok, sl, h⟩
  refine ⟨F, as, env, cs, ok, sl, out_imp (out_bnd h) fun d cs1 F1 H1 as1 g1 ok1 h1 v hv => ?_⟩
  unfold opRg at h1
  split at h1
  · split at h1
    · rename_i b q
      cases hv
      exact ⟨b, rfl, rgOk_ok q, new_tup ok1 (rng_dv 0 b) h1⟩
    · exact False.elim h1
  · exact False.elim h1)
end
end G
/-! G3: what is walked, comprehensions, statements. -/
namespace G
open L2 PySem PySem.Spec PyProof.Rows
/-! ### targets -/
inductive Tg where
  | nm (j : Nat) | tp (js : List Nat)
def setAll : List Nat → List D → En → Option En
  | [], [], env => some env
  | j :: js, d :: ds, env => setAll js ds (env.set j (some d))
  | _, _, _ => none
def tgS : Tg → D → En → Option En
  | .nm j, d, env => some (env.set j (some d))
  | .tp js, .tup ds, env => setAll js ds env
  | _, _, _ => none
def gNs : List Nat → TGs
  | [] => gNil
  | j :: js => gCons (gName j) (gNs js)
def tgR (K : PySem.W.Frag) : Tg → TG
  | .nm j => gName j
  | .tp js => gTup K js.length (gNs js)
def Tg.slots : Tg → List Nat
  | .nm j => [j]
  | .tp js => js
section
variable {K : PySem.W.Frag} {F H : Hp} {as : List Addr} {cs : Cs}
theorem wipe_get {σ : L2.St} : ∀ {vs : List Nat} (i : Nat), (wipe σ vs)[i]? = if i ∈ vs ∧ i < σ.length then some none else σ[i]?
  | [], i => by
    rw [if_neg (by simp)]
    rfl
  | v :: vs, i => by
    show ((wipe σ vs).set v none)[i]? = _
    by_cases e : v = i
    · subst e
      by_cases hl : v < σ.length
      · rw [List.getElem?_set_self (by rw [wipe_length]; exact hl), if_pos ⟨List.mem_cons_self, hl⟩]
      · rw [List.getElem?_eq_none (by rw [List.length_set, wipe_length]; exact Nat.le_of_not_lt hl), if_neg (fun z => hl z.2), List.getElem?_eq_none (Nat.le_of_not_lt hl)]
    · rw [List.getElem?_set_ne e, wipe_get i]
      have : (i ∈ v :: vs ∧ i < σ.length) ↔ (i ∈ vs ∧ i < σ.length) := by
        rw [List.mem_cons]
        constructor
        · rintro ⟨h | h, h2⟩
          · exact absurd h.symm e
          · exact ⟨h, h2⟩
        · rintro ⟨h, h2⟩
          exact ⟨.inr h, h2⟩
      by_cases c : i ∈ vs ∧ i < σ.length
      · rw [if_pos c, if_pos (this.mpr c)]
      · rw [if_neg c, if_neg fun z => c (this.mp z)]
theorem wipe_set {σ : L2.St} {vs : List Nat} {j : Nat} (h : j ∈ vs) (x : Option V) : wipe (σ.set j x) vs = wipe σ vs := by
  apply List.ext_getElem?
  intro i
  rw [wipe_get, wipe_get, List.length_set]
  by_cases c : i ∈ vs ∧ i < σ.length
  · rw [if_pos c, if_pos c]
  · rw [if_neg c, if_neg c]
    by_cases e : j = i
    · subst e
      have hl : ¬ j < σ.length := fun z => c ⟨h, z⟩
      rw [List.getElem?_eq_none (by rw [List.length_set]; exact Nat.le_of_not_lt hl), List.getElem?_eq_none (Nat.le_of_not_lt hl)]
    · rw [List.getElem?_set_ne e]
theorem setAll_ok : ∀ {js : List Nat} {ds : List D} {vs : List V} {σ : L2.St} {env env' : En}, DvL K F as vs ds → Sl K F as σ env → setAll js ds env = some env' →
    ∃ σ', Sl K F as σ' env' ∧ σ'.length = σ.length ∧ (∀ ws, (∀ j ∈ js, j ∈ ws) → wipe σ' ws = wipe σ ws) ∧ ∀ (H : Hp) (Q : L2.St → Hp → Prop), Q σ' H → gNs js vs σ H Q
  | [], [], _, σ, env, env', h, sl, e => by
    cases h
    cases e
    exact ⟨σ, sl, rfl, fun _ _ => rfl, fun _ _ q => ⟨rfl, q⟩⟩
  | j :: js, d :: ds, _, σ, env, env', h, sl, e => by
    cases h with
    | cons h1 h2 =>
      obtain ⟨σ', s1, l1, w1, q1⟩ := setAll_ok h2 (sl.set h1 j) e
      refine ⟨σ', s1, by rw [l1, List.length_set], fun ws hw => ?_, fun H Q q => ⟨_, _, rfl, q1 H Q q⟩⟩
      rw [w1 ws fun k hk => hw k (List.mem_cons_of_mem _ hk), wipe_set (hw j List.mem_cons_self)]
  | [], _ :: _, _, _, _, _, _, _, e => by cases e
  | _ :: _, [], _, _, _, _, _, _, e => by cases e
theorem setAll_len : ∀ {js : List Nat} {ds : List D} {env env' : En}, setAll js ds env = some env' → js.length = ds.length
  | [], [], _, _, _ => rfl
  | _ :: js, _ :: ds, _, _, e => congrArg (· + 1) (setAll_len (js := js) (ds := ds) e)
  | [], _ :: _, _, _, e => by cases e
  | _ :: _, [], _, _, e => by cases e
theorem tg_ok {t : Tg} {d : D} {v : V} {σ : L2.St} {env env' : En} (ok : Ok K F H as cs) (h : Dv K F as v d) (sl : Sl K F as σ env) (e : tgS t d env = some env') :
    ∃ σ', Sl K F as σ' env' ∧ σ'.length = σ.length ∧ (∀ ws, (∀ j ∈ t.slots, j ∈ ws) → wipe σ' ws = wipe σ ws) ∧ ∀ (Q : L2.St → Hp → Prop), Q σ' H → tgR K t v σ H Q := by
  cases t with
  | nm j =>
    cases e
    exact ⟨_, sl.set h j, List.length_set, fun ws hw => wipe_set (hw j List.mem_cons_self) _, fun Q q => q⟩
  | tp js =>
    cases d with
    | tup ds =>
      cases h with
      | tup t l =>
        obtain ⟨σ', s1, l1, w1, q1⟩ := setAll_ok l sl e
        exact ⟨σ', s1, l1, w1, fun Q q => ⟨_, _, rfl, SqT.of (ok.fh _ _ t), by rw [l.length, setAll_len e], q1 H Q q⟩⟩
    | _ => cases e
end
/-! ### what is walked -/
structure It0 where
  items : List D
  live : Cs → Bool
mutual
def eqD : D → D → Bool
  | .non, .non => true
  | .bl a, .bl b => a == b
  | .int i, .int j => i == j
  | .str x, .str y => x == y
  | .tup xs, .tup ys => eqDL xs ys
  | .lst xs, .lst ys => eqDL xs ys
  | .ref i, .ref j => i == j
  | .dic, .dic => true
  | .scr a, .scr b => a == b
  | _, _ => false
def eqDL : List D → List D → Bool
  | [], [] => true
  | x :: xs, y :: ys => eqD x y && eqDL xs ys
  | _, _ => false
end
mutual
theorem eqD_eq : ∀ {d e : D}, eqD d e = true → d = e
  | .non, .non, _ => rfl
  | .bl a, .bl b, h => congrArg D.bl (eq_of_beq (show (a == b) = true from h))
  | .int a, .int b, h => congrArg D.int (eq_of_beq (show (a == b) = true from h))
  | .str a, .str b, h => congrArg D.str (eq_of_beq (show (a == b) = true from h))
  | .tup a, .tup b, h => congrArg D.tup (eqDL_eq (show eqDL a b = true from h))
  | .lst a, .lst b, h => congrArg D.lst (eqDL_eq (show eqDL a b = true from h))
  | .ref a, .ref b, h => congrArg D.ref (eq_of_beq (show (a == b) = true from h))
  | .dic, .dic, _ => rfl
  | .scr a, .scr b, h => congrArg D.scr (eq_of_beq (show (a == b) = true from h))
  | .non, .bl _, h | .non, .int _, h | .non, .str _, h | .non, .tup _, h | .non, .lst _, h | .non, .ref _, h | .non, .dic, h | .non, .scr _, h => by cases h
  | .bl _, .non, h | .bl _, .int _, h | .bl _, .str _, h | .bl _, .tup _, h | .bl _, .lst _, h | .bl _, .ref _, h | .bl _, .dic, h | .bl _, .scr _, h => by cases h
  | .int _, .non, h | .int _, .bl _, h | .int _, .str _, h | .int _, .tup _, h | .int _, .lst _, h | .int _, .ref _, h | .int _, .dic, h | .int _, .scr _, h => by cases h
  | .str _, .non, h | .str _, .bl _, h | .str _, .int _, h | .str _, .tup _, h | .str _, .lst _, h | .str _, .ref _, h | .str _, .dic, h | .str _, .scr _, h => by cases h
  | .tup _, .non, h | .tup _, .bl _, h | .tup _, .int _, h | .tup _, .str _, h | .tup _, .lst _, h | .tup _, .ref _, h | .tup _, .dic, h | .tup _, .scr _, h => by cases h
  | .lst _, .non, h | .lst _, .bl _, h | .lst _, .int _, h | .lst _, .str _, h | .lst _, .tup _, h | .lst _, .ref _, h | .lst _, .dic, h | .lst _, .scr _, h => by cases h
  | .ref _, .non, h | .ref _, .bl _, h | .ref _, .int _, h | .ref _, .str _, h | .ref _, .tup _, h | .ref _, .lst _, h | .ref _, .dic, h | .ref _, .scr _, h => by cases h
  | .dic, .non, h | .dic, .bl _, h | .dic, .int _, h | .dic, .str _, h | .dic, .tup _, h | .dic, .lst _, h | .dic, .ref _, h | .dic, .scr _, h => by cases h
  | .scr _, .non, h | .scr _, .bl _, h | .scr _, .int _, h | .scr _, .str _, h | .scr _, .tup _, h | .scr _, .lst _, h | .scr _, .ref _, h | .scr _, .dic, h => by cases h
theorem eqDL_eq : ∀ {d e : List D}, eqDL d e = true → d = e
  | [], [], _ => rfl
  | x :: xs, y :: ys, h => by
    obtain ⟨h1, h2⟩ := Bool.and_eq_true_iff.mp (show (eqD x y && eqDL xs ys) = true from h)
    rw [eqD_eq h1, eqDL_eq h2]
  | [], _ :: _, h => by cases h
  | _ :: _, [], h => by cases h
end
/-- the list stands as it stood -/
def liveOf (xs : List D) : D → Cs → Bool
  | .ref i, cs' => (match cs'[i]? with
    | some ys => eqDL ys xs
    | none => false)
  | _, _ => true
theorem liveOf_ok {cs cs' : Cs} {d : D} {xs : List D} (e : seqOf cs d = some xs) (h : liveOf xs d cs' = true) : seqOf cs' d = some xs := by
  cases d with
  | ref i =>
    have h2 : (match cs'[i]? with
      | some ys => eqDL ys xs
      | none => false) = true := h
    cases q : cs'[i]? with
    | none =>
      rw [q] at h2
      cases h2
    | some ys =>
      rw [q] at h2
      show cs'[i]? = some xs
      rw [q, eqDL_eq h2]
  | _ => exact e
def ItOk (K : PySem.W.Frag) (F H : Hp) (as : List Addr) (J : It) (xs : List D) (live : Cs → Bool) : Prop :=
  ∀ F2 H2 as2 cs2, Gro F H as F2 H2 as2 → Ok K F2 H2 as2 cs2 → live cs2 = true →
    (∀ i d, xs[i]? = some d → J.go i H2 ∧ ∀ x H3, J.yld i H2 x H3 → ∃ F3, Gro F2 H2 as2 F3 H3 as2 ∧ Ok K F3 H3 as2 cs2 ∧ Dv K F3 as2 x d) ∧ J.stop xs.length H2
def tI (K : PySem.W.Frag) (ct : Ct) (W : WX) (m : En → M It0) : TI := fun σ H R => ∃ F as env cs, Ok K F H as cs ∧ Sl K F as σ env ∧ out K ct W σ.length F H as (m env cs) fun it _ F' H' as' => ∀ J, ItOk K F' H' as' J it.items it.live → R J H'
theorem PI.imp {X : Cx} {tg e : Expr} {t t' : TI} (h : PI X tg e t) (k : ∀ σ H R, t' σ H R → t σ H R) : PI X tg e t' := ⟨fun pins s σ H R I w => h.run pins s σ H R I (k σ H R w)⟩
def itSeq (m : En → M D) : En → M It0 := fun env => M.bnd (m env) fun d cs => match seqOf cs d with
  | some xs => .ok ⟨xs, liveOf xs d⟩ cs
  | none => .no
def itTup (m : En → M D) : En → M It0 := fun env => M.bnd (m env) fun d => match d with
  | .tup xs => M.ret ⟨xs, fun _ => true⟩
  | _ => M.no
def small62 (i : Int) : Bool := decide (-(2 ^ 62) ≤ i ∧ i < 2 ^ 62)
def rngC (a c : Int) (n : Nat) : List D := (List.range n).map fun i => .int (a + (i : Nat) * c)
def opR1 : D → M It0
  | .int j => if small62 j = true then M.ret ⟨rngD 0 j.toNat, fun _ => true⟩ else M.no
  | _ => M.no
def opR2 : D → D → M It0
  | .int i, .int j => if small62 i && small62 j then M.ret ⟨rngD i (j - i).toNat, fun _ => true⟩ else M.no
  | _, _ => M.no
def opR3 : D → D → D → M It0
  | .int i, .int j, .int c => if decide (c ≠ 0 ∧ c.natAbs < 1073741824 ∧ 0 ≤ Builtin.Range.rangeSize i j c) && Builtin.Range.small i j c then M.ret ⟨rngC i c (Builtin.Range.rangeSize i j c).toNat, fun _ => true⟩ else M.no
  | _, _, _ => M.no
def itR1 (a : En → M D) : En → M It0 := fun env => M.bnd (a env) opR1
def itR2 (a b : En → M D) : En → M It0 := fun env => M.bnd (a env) fun x => M.bnd (b env) fun y => opR2 x y
def itR3 (a b c : En → M D) : En → M It0 := fun env => M.bnd (a env) fun x => M.bnd (b env) fun y => M.bnd (c env) fun z => opR3 x y z
def itRev (m : En → M D) : En → M It0 := fun env => M.bnd (m env) fun d cs => match seqOf cs d with
  | some xs => .ok ⟨xs.reverse, liveOf xs d⟩ cs
  | none => .no
def itZip (a b : En → M D) : En → M It0 := fun env => M.bnd (a env) fun d => M.bnd (b env) fun e cs => match seqOf cs d, seqOf cs e with
  | some xs, some ys => .ok ⟨(xs.zip ys).map fun p => .tup [p.1, p.2], fun cs' => liveOf xs d cs' && liveOf ys e cs'⟩ cs
  | _, _ => .no
def itStr (m : En → M D) : En → M It0 := fun env => M.bnd (m env) fun d => match d with
  | .str z => M.ret ⟨z.cps.toList.map fun c => .str ⟨#[c]⟩, fun _ => true⟩
  | _ => M.no
section
variable {X : Cx} {ct : Ct} {W : WX} {tg e e2 e3 : Expr} {me m2 m3 : En → M D} {p pos : Pos}
theorem itOk_const {K : PySem.W.Frag} {F H : Hp} {as : List Addr} {J : It} {xs : List D} {live : Cs → Bool} (g : ∀ i d, xs[i]? = some d → ∀ H, J.go i H) (y : ∀ i d, xs[i]? = some d → ∀ H x H3, J.yld i H x H3 → H3 = H ∧ ∀ F as, Dv K F as x d) (s : ∀ H, J.stop xs.length H) : ItOk K F H as J xs live := fun F2 H2 as2 cs2 _ ok2 _ =>
  ⟨fun i d hd => ⟨g i d hd H2, fun x H3 hy => by
    obtain ⟨e, dv⟩ := y i d hd H2 x H3 hy
    subst e
    exact ⟨F2, Gro.refl _ _ _, ok2, dv F2 as2⟩⟩, s H2⟩
theorem rngD_get {a : Int} {n i : Nat} {d : D} (h : (rngD a n)[i]? = some d) : i < n ∧ d = .int (a + (i : Nat)) := by
  unfold rngD at h
  rw [List.getElem?_map] at h
  by_cases hi : i < n
  · rw [List.getElem?_range hi] at h
    exact ⟨hi, (Option.some.inj h).symm⟩
  · rw [List.getElem?_eq_none (by rw [List.length_range]; omega)] at h
    cases h
theorem rngC_get {a c : Int} {n i : Nat} {d : D} (h : (rngC a c n)[i]? = some d) : i < n ∧ d = .int (a + (i : Nat) * c) := by
  unfold rngC at h
  rw [List.getElem?_map] at h
  by_cases hi : i < n
  · rw [List.getElem?_range hi] at h
    exact ⟨hi, (Option.some.inj h).symm⟩
  · rw [List.getElem?_eq_none (by rw [List.length_range]; omega)] at h
    cases h
theorem itOk_rng {K : PySem.W.Frag} {F H : Hp} {as : List Addr} {a : Int} {n : Nat} {live : Cs → Bool} : ItOk K F H as (Itr a n) (rngD a n) live := itOk_const (fun i d h _ => (rngD_get h).1) (fun i d h H x H3 y => by
  obtain ⟨e, ex⟩ := y
  obtain ⟨_, ed⟩ := rngD_get h
  subst ed ex
  exact ⟨e, fun _ _ => .int _⟩) fun _ => by
    show n ≤ (rngD a n).length
    unfold rngD
    rw [List.length_map, List.length_range]
    exact Nat.le_refl n
theorem itOk_rngC {K : PySem.W.Frag} {F H : Hp} {as : List Addr} {a c : Int} {n : Nat} {live : Cs → Bool} : ItOk K F H as (Itc a c n) (rngC a c n) live := itOk_const (fun i d h _ => (rngC_get h).1) (fun i d h H x H3 y => by
  obtain ⟨e, ex⟩ := y
  obtain ⟨_, ed⟩ := rngC_get h
  subst ed ex
  exact ⟨e, fun _ _ => .int _⟩) fun _ => by
    show n ≤ (rngC a c n).length
    unfold rngC
    rw [List.length_map, List.length_range]
    exact Nat.le_refl n
theorem gi_r1 (hg : Gl X "range") (hm : X.mg "range" = none) (ha : PE X e (tD X.K ct W me)) (hs : starEach [e] X.env = [(false, eval e X.env)] := by rfl) (hs1 : starEach [e] X.env = (false, eval e X.env) :: starEach [] X.env := by rfl) : PI X tg (.Call (.Name "range" p) [e] [] pos) (tI X.K ct W (itR1 me)) := PI.imp (pi_range1 hg hm (pa_cons ha pa_nil hs1) hs) (by
  rintro σ H R ⟨F, as, env, cs, ok, sl, h⟩
  refine ⟨F, as, env, cs, ok, sl, out_imp (out_bnd h) fun d cs1 F1 H1 as1 g ok1 h1 v hv => ?_⟩
  unfold opR1 at h1
  split at h1
  · split at h1
    · rename_i j q
      cases hv
      obtain ⟨q1, q2⟩ := of_decide_eq_true q
      exact ⟨j, rfl, q1, q2, out_ok ok1 h1 _ itOk_rng⟩
    · exact False.elim h1
  · exact False.elim h1)
theorem gi_r2 (hg : Gl X "range") (hm : X.mg "range" = none) (ha : PE X e (tD X.K ct W me)) (hb : PE X e2 (tD X.K ct W m2)) (hs : starEach [e, e2] X.env = [(false, eval e X.env), (false, eval e2 X.env)] := by rfl) (hs2 : starEach [e2] X.env = [(false, eval e2 X.env)] := by rfl)
    (hs1 : starEach [e, e2] X.env = (false, eval e X.env) :: starEach [e2] X.env := by rfl) (hs3 : starEach [e2] X.env = (false, eval e2 X.env) :: starEach [] X.env := by rfl) : PI X tg (.Call (.Name "range" p) [e, e2] [] pos) (tI X.K ct W (itR2 me m2)) := PI.imp (pi_range2 hg hm (pa_cons ha (pa_cons hb pa_nil hs3) hs1) hs hs2) (by
  rintro σ H R ⟨F, as, env, cs, ok, sl, h⟩
  refine ⟨F, as, env, cs, ok, sl, out_imp (out_bnd h) fun d cs1 F1 H1 as1 g ok1 h1 v hv => ?_⟩
  refine ⟨F1, as1, env, cs1, ok1, sl.gro g, out_imp (out_bnd h1) fun d2 cs2 F2 H2 as2 g2 ok2 h2 u hu => ?_⟩
  unfold opR2 at h2
  split at h2
  · split at h2
    · rename_i i j q
      cases hv
      cases hu
      obtain ⟨q1, q2⟩ := Bool.and_eq_true_iff.mp q
      obtain ⟨q3, q4⟩ := of_decide_eq_true q1
      obtain ⟨q5, q6⟩ := of_decide_eq_true q2
      exact ⟨i, j, rfl, ⟨q3, q4, q5, q6⟩, out_ok ok2 h2 _ itOk_rng⟩
    · exact False.elim h2
  · exact False.elim h2)
theorem gi_r3 (hg : Gl X "range") (hm : X.mg "range" = none) (ha : PE X e (tD X.K ct W me)) (hb : PE X e2 (tD X.K ct W m2)) (hc : PE X e3 (tD X.K ct W m3)) (hs : starEach [e, e2, e3] X.env = (false, eval e X.env) :: starEach [e2, e3] X.env := by rfl) (hpl : (backTo pos (starEach [e2, e3] X.env)).any (·.1) = false := by rfl)
    (hs2 : starEach [e2, e3] X.env = (false, eval e2 X.env) :: starEach [e3] X.env := by rfl) (hs3 : starEach [e3] X.env = (false, eval e3 X.env) :: starEach [] X.env := by rfl) : PI X tg (.Call (.Name "range" p) [e, e2, e3] [] pos) (tI X.K ct W (itR3 me m2 m3)) := PI.imp (pi_range3 hg hm (pa_cons ha (pa_cons hb (pa_cons hc pa_nil hs3) hs2) hs) hs hpl) (by
  rintro σ H R ⟨F, as, env, cs, ok, sl, h⟩
  refine ⟨F, as, env, cs, ok, sl, out_imp (out_bnd h) fun d cs1 F1 H1 as1 g ok1 h1 v hv => ?_⟩
  refine ⟨F1, as1, env, cs1, ok1, sl.gro g, out_imp (out_bnd h1) fun d2 cs2 F2 H2 as2 g2 ok2 h2 u hu => ?_⟩
  refine ⟨F2, as2, env, cs2, ok2, (sl.gro g).gro g2, out_imp (out_bnd h2) fun d3 cs3 F3 H3 as3 g3 ok3 h3 w hw => ?_⟩
  unfold opR3 at h3
  split at h3
  · split at h3
    · rename_i i j c q
      cases hv
      cases hu
      cases hw
      obtain ⟨q1, q2⟩ := Bool.and_eq_true_iff.mp q
      obtain ⟨q3, q4, q5⟩ := of_decide_eq_true q1
      exact ⟨i, j, c, _, rfl, ⟨q3, q4, q2, by omega⟩, out_ok ok3 h3 _ itOk_rngC⟩
    · exact False.elim h3
  · exact False.elim h3)
theorem gi_seq (ha : PE X e (tD X.K ct W me)) : PI X tg e (tI X.K ct W (itSeq me)) := PI.imp (pi_list ha) (by
  rintro σ H R ⟨F, as, env, cs, ok, sl, h⟩
  refine ⟨F, as, env, cs, ok, sl, out_imp (out_bnd h) fun d cs1 F1 H1 as1 g ok1 h1 v hv => ?_⟩
  try dsimp only at h1
  split at h1
  · rename_i xs q
    obtain ⟨a, ys, rfl, h2, l⟩ := seq_at ok1 hv q
    refine ⟨a, rfl, ⟨ys, h2⟩, out_ok ok1 h1 _ fun F2 H2 as2 cs2 g2 ok2 lv => ?_⟩
    obtain ⟨b, zs, eb, h3, l3⟩ := seq_at ok2 (hv.gro g2) (liveOf_ok q lv)
    have ea : a = b := V.ref.inj eb
    subst ea
    refine ⟨fun i d hd => ?_, ⟨zs, h3, by rw [l3.length]; exact Nat.le_refl _⟩⟩
    obtain ⟨z, hz, dz⟩ := l3.get hd
    refine ⟨⟨zs, z, h3, hz⟩, fun x H3 hy => ?_⟩
    obtain ⟨e3, hy⟩ := hy
    subst e3
    have ex : z = x := Option.some.inj (hz.symm.trans (hy zs h3))
    subst ex
    exact ⟨F2, Gro.refl _ _ _, ok2, dz⟩
  · exact False.elim h1)
theorem gi_tup (ha : PE X e (tD X.K ct W me)) : PI X tg e (tI X.K ct W (itTup me)) := PI.imp (pi_tup ha) (by
  rintro σ H R ⟨F, as, env, cs, ok, sl, h⟩
  refine ⟨F, as, env, cs, ok, sl, out_imp (out_bnd h) fun d cs1 F1 H1 as1 g ok1 h1 v hv => ?_⟩
  split at h1
  · rename_i xs
    cases hv with
    | tup t l =>
      refine ⟨_, rfl, ⟨_, SqT.of (ok1.fh _ _ t)⟩, out_ok ok1 h1 _ fun F2 H2 as2 cs2 g2 ok2 lv => ?_⟩
      have h3 := SqT.of (K := X.K) (ok2.fh _ _ (g2.ff _ _ t))
      refine ⟨fun i d hd => ?_, ⟨_, h3, by rw [l.length]; exact Nat.le_refl _⟩⟩
      obtain ⟨z, hz, dz⟩ := (l.gro g2).get hd
      refine ⟨⟨_, z, h3, hz⟩, fun x H3 hy => ?_⟩
      obtain ⟨e3, hy⟩ := hy
      subst e3
      have ex : z = x := Option.some.inj (hz.symm.trans (hy _ h3))
      subst ex
      exact ⟨F2, Gro.refl _ _ _, ok2, dz⟩
  · exact False.elim h1)
theorem rev_get {α : Type} {xs : List α} {i : Nat} {d : α} (h : xs.reverse[i]? = some d) : i < xs.length ∧ xs[xs.length - 1 - i]? = some d := by
  have hi : i < xs.length := by
    have := (List.getElem?_eq_some_iff.mp h).1
    rwa [List.length_reverse] at this
  rw [List.getElem?_reverse hi] at h
  exact ⟨hi, h⟩
theorem gi_rev (hg : Gl X "reversed") (hm : X.mg "reversed" = none) (ha : PE X e (tD X.K ct W me)) (hs : starEach [e] X.env = [(false, eval e X.env)] := by rfl) (hs1 : starEach [e] X.env = (false, eval e X.env) :: starEach [] X.env := by rfl) : PI X tg (.Call (.Name "reversed" p) [e] [] pos) (tI X.K ct W (itRev me)) := PI.imp (pi_reversed hg hm (pa_cons ha pa_nil hs1) hs) (by
  rintro σ H R ⟨F, as, env, cs, ok, sl, h⟩
  refine ⟨F, as, env, cs, ok, sl, out_imp (out_bnd h) fun d cs1 F1 H1 as1 g ok1 h1 v hv => ?_⟩
  try dsimp only at h1
  split at h1
  · rename_i xs q
    obtain ⟨a, ys, rfl, h2, l⟩ := seq_at ok1 hv q
    refine ⟨a, ys, rfl, h2, out_ok ok1 h1 _ fun F2 H2 as2 cs2 g2 ok2 lv => ?_⟩
    obtain ⟨b, zs, eb, h3, l3⟩ := seq_at ok2 (hv.gro g2) (liveOf_ok q lv)
    have ea : a = b := V.ref.inj eb
    subst ea
    have hl := l.length
    refine ⟨fun i d hd => ?_, ?_⟩
    · obtain ⟨hi, hd⟩ := rev_get hd
      obtain ⟨z, hz, dz⟩ := l3.get hd
      have hz2 : zs[ys.length - 1 - i]? = some z := by rw [hl]; exact hz
      refine ⟨⟨by omega, zs, z, h3, hz2⟩, fun x H3 hy => ?_⟩
      obtain ⟨e3, hy⟩ := hy
      subst e3
      have ex : z = x := Option.some.inj (hz2.symm.trans (hy zs h3))
      subst ex
      exact ⟨F2, Gro.refl _ _ _, ok2, dz⟩
    · show ys.length ≤ xs.reverse.length
      rw [List.length_reverse, hl]
      exact Nat.le_refl _
  · exact False.elim h1)
theorem zip_get {α β : Type} : ∀ {xs : List α} {ys : List β} {i : Nat} {q : α × β}, (xs.zip ys)[i]? = some q → xs[i]? = some q.1 ∧ ys[i]? = some q.2
  | [], _, _, _, h => by simp at h
  | _ :: _, [], _, _, h => by simp at h
  | x :: xs, y :: ys, 0, q, h => by
    have e : (x, y) = q := Option.some.inj h
    subst e
    exact ⟨rfl, rfl⟩
  | x :: xs, y :: ys, i + 1, q, h => zip_get (xs := xs) (ys := ys) (i := i) (q := q) h
theorem gi_zip {elts : List Expr} {kk : Nat} {tpos : Pos} (hg : Gl X "zip") (hm : X.mg "zip" = none) (ha : PE X e (tD X.K ct W me)) (hb : PE X e2 (tD X.K ct W m2)) (hs : starEach [e, e2] X.env = (false, eval e X.env) :: starEach [e2] X.env := by rfl) (hpl : (backTo pos (starEach [e2] X.env)).any (·.1) = false := by rfl)
    (hs3 : starEach [e2] X.env = (false, eval e2 X.env) :: starEach [] X.env := by rfl) : PI X (.Tuple elts kk tpos) (.Call (.Name "zip" p) [e, e2] [] pos) (tI X.K ct W (itZip me m2)) := PI.imp (pi_zip hg hm (pa_cons ha (pa_cons hb pa_nil hs3) hs) hs hpl) (by
  rintro σ H R ⟨F, as, env, cs, ok, sl, h⟩
  refine ⟨F, as, env, cs, ok, sl, out_imp (out_bnd h) fun d cs1 F1 H1 as1 g ok1 h1 v hv => ?_⟩
  refine ⟨F1, as1, env, cs1, ok1, sl.gro g, out_imp (out_bnd h1) fun f cs2 F2 H2 as2 g2 ok2 h2 u hu => ?_⟩
  try dsimp only at h2
  split at h2
  · rename_i xs ys q1 q2
    obtain ⟨a, vs, rfl, h3, l3⟩ := seq_at ok2 (hv.gro g2) q1
    obtain ⟨b, us, rfl, h4, l4⟩ := seq_at ok2 hu q2
    refine ⟨a, b, vs, us, rfl, h3, h4, out_ok ok2 h2 _ fun F3 H3 as3 cs3 g3 ok3 lv => ?_⟩
    obtain ⟨lv1, lv2⟩ := Bool.and_eq_true_iff.mp lv
    obtain ⟨a', vs', ea, h5, l5⟩ := seq_at ok3 ((hv.gro g2).gro g3) (liveOf_ok q1 lv1)
    obtain ⟨b', us', eb, h6, l6⟩ := seq_at ok3 (hu.gro g3) (liveOf_ok q2 lv2)
    have ea : a = a' := V.ref.inj ea
    have eb : b = b' := V.ref.inj eb
    subst ea eb
    refine ⟨fun i d hd => ?_, ⟨vs', us', h5, h6, ?_⟩⟩
    · rw [List.getElem?_map] at hd
      cases q : (xs.zip ys)[i]? with
      | none =>
        rw [q] at hd
        cases hd
      | some pq =>
        rw [q] at hd
        have ed : D.tup [pq.1, pq.2] = d := Option.some.inj hd
        subst ed
        obtain ⟨z1, z2⟩ := zip_get q
        obtain ⟨w1, hw1, dw1⟩ := l5.get z1
        obtain ⟨w2, hw2, dw2⟩ := l6.get z2
        refine ⟨⟨vs', us', w1, w2, h5, h6, hw1, hw2⟩, fun x H4 hy => ?_⟩
        obtain ⟨T, x1, x2, rfl, hT, rfl, y1, y2⟩ := hy
        have e1 : w1 = x1 := Option.some.inj (hw1.symm.trans (y1 _ h5))
        have e2 : w2 = x2 := Option.some.inj (hw2.symm.trans (y2 _ h6))
        subst e1 e2
        exact ⟨_, gro_new _ ok3 hT, ok_new _ ok3 hT, .tup upd_same (.cons (dw1.mono (Ext.new (ok3.fnone hT)) List.prefix_rfl) (.cons (dw2.mono (Ext.new (ok3.fnone hT)) List.prefix_rfl) .nil))⟩
    · rw [List.length_map, List.length_zip, l5.length, l6.length]
      omega
  · exact False.elim h2)
theorem gi_str (ha : PE X e (tD X.K ct W me)) : PI X tg e (tI X.K ct W (itStr me)) := PI.imp (pi_str ha) (by
  rintro σ H R ⟨F, as, env, cs, ok, sl, h⟩
  refine ⟨F, as, env, cs, ok, sl, out_imp (out_bnd h) fun d cs1 F1 H1 as1 g ok1 h1 v hv => ?_⟩
  split at h1
  · rename_i z
    cases hv
    refine ⟨z, rfl, out_ok ok1 h1 _ (itOk_const (fun i d h _ => ?_) (fun i d h H x H3 y => ?_) fun _ => ?_)⟩
    · rw [List.getElem?_map] at h
      show i < z.cps.size
      by_cases hi : i < z.cps.size
      · exact hi
      · rw [List.getElem?_eq_none (by simpa using Nat.le_of_not_lt hi)] at h
        cases h
    · obtain ⟨e, c, hc, ex⟩ := y
      subst ex
      refine ⟨e, fun _ _ => ?_⟩
      rw [List.getElem?_map, Array.getElem?_toList, hc] at h
      have ed : D.str ⟨#[c]⟩ = d := Option.some.inj h
      subst ed
      exact .str _
    · show z.cps.size ≤ _
      simp
  · exact False.elim h1)
end
/-! ### comprehensions -/
def guardM (live : Cs → Bool) {α : Type} (m : M α) : M α := fun cs => if live cs = true then m cs else .no
def lcGo (live : Cs → Bool) (t : Tg) (tt : En → M Bool) (te : En → M D) (env : En) : List D → M (List D)
  | [] => guardM live (M.ret [])
  | x :: r => guardM live (match tgS t x env with
    | some env1 => M.bnd (tt env1) fun b => if b = true then M.bnd (te env1) fun y => M.bnd (lcGo live t tt te env r) fun ys => M.ret (y :: ys) else lcGo live t tt te env r
    | none => M.no)
def bYes : En → M Bool := fun _ => M.ret true
def xLc (c : Bool) (it : En → M It0) (own : List Nat) (t : Tg) (tt : En → M Bool) (te : En → M D) : En → M D := fun env => M.bnd (it env) fun i =>
  if szOk i.items.length = true then M.bnd (lcGo i.live t tt te (wip env own) i.items) fun ys => mkL c ys else M.no
theorem out_guard {α : Type} {K : PySem.W.Frag} {ct : Ct} {W : WX} {n : Nat} {F H : Hp} {as : List Addr} {live : Cs → Bool} {m : M α} {cs : Cs} {P : α → Cs → Hp → Hp → List Addr → Prop} (h : out K ct W n F H as (guardM live m cs) P) : live cs = true ∧ out K ct W n F H as (m cs) P := by
  unfold guardM at h
  by_cases q : live cs = true
  · rw [if_pos q] at h
    exact ⟨q, h⟩
  · rw [if_neg q] at h
    exact False.elim h
def W0 : WX := fun _ _ _ _ => False
/-- no exception is wished for where none comes -/
def calmM {α : Type} (r : Rs α) : Prop := ∀ x cs, r ≠ .ex x cs
theorem getElem_drop {α : Type} {xs r : List α} {i : Nat} {x : α} (h : xs.drop i = x :: r) : xs[i]? = some x ∧ xs.drop (i + 1) = r ∧ i < xs.length := by
  have hi : i < xs.length := by
    by_cases q : i < xs.length
    · exact q
    · rw [List.drop_eq_nil_of_le (Nat.le_of_not_lt q)] at h
      cases h
  rw [List.drop_eq_getElem_cons hi] at h
  obtain ⟨h1, h2⟩ := List.cons.inj h
  exact ⟨by rw [List.getElem?_eq_getElem hi, h1], h2, hi⟩
theorem drop_nil {α : Type} {xs : List α} {i : Nat} (h : xs.drop i = []) (hi : i ≤ xs.length) : i = xs.length := by
  have := congrArg List.length h
  rw [List.length_drop] at this
  simp at this
  omega
/-- exceptions turned to nothing -/
def noX {α : Type} (m : M α) : M α := fun cs => match m cs with
  | .ok a cs' => .ok a cs'
  | _ => .no
theorem out_noX {α : Type} {K : PySem.W.Frag} {ct : Ct} {W W' : WX} {n n' : Nat} {F H : Hp} {as : List Addr} {m : M α} {cs : Cs} {P : α → Cs → Hp → Hp → List Addr → Prop} (h : out K ct W n F H as (noX m cs) P) : out K ct W' n' F H as (m cs) P := by
  unfold noX at h
  cases q : m cs with
  | ok a cs' =>
    rw [q] at h
    exact h
  | ex x cs' =>
    rw [q] at h
    exact False.elim h
  | no =>
    rw [q] at h
    exact False.elim h
/-- one address left out -/
def rm (H : Hp) (A : Addr) : Hp := fun b => if b = A then none else H b
theorem rm_same {H : Hp} {A : Addr} : rm H A A = none := if_pos rfl
theorem upd_rm {H : Hp} {A : Addr} {o : HO} : upd (rm H A) A o = upd H A o := by
  funext b
  by_cases e : b = A
  · rw [e, upd_same, upd_same]
  · rw [upd_ne e, upd_ne e]
    exact if_neg e
theorem wipe_idem {σ : L2.St} {vs : List Nat} : wipe (wipe σ vs) vs = wipe σ vs := by
  apply List.ext_getElem?
  intro i
  rw [wipe_get, wipe_length]
  by_cases c : i ∈ vs ∧ i < σ.length
  · rw [if_pos c, wipe_get, if_pos c]
  · rw [if_neg c]
theorem rm_ne {H : Hp} {A b : Addr} (h : b ≠ A) : rm H A b = H b := if_neg h
section
variable {K : PySem.W.Frag} {ct : Ct} {F H F3 H3 : Hp} {as as3 : List Addr} {cs cs3 : Cs} {A : Addr} {o : HO}
theorem hide_gro (ok : Ok K F H as cs) (hA : H A = none) (g : Gro F (upd H A o) as F3 H3 as3) (ok3 : Ok K F3 H3 as3 cs3) : H3 = upd (rm H3 A) A o ∧ Gro F H as F3 (rm H3 A) as3 ∧ Ok K F3 (rm H3 A) as3 cs3 := by
  have nA : A ∉ as := ok.out hA
  have h3 : H3 A = some o := g.hh A o upd_same nA
  have nA3 : A ∉ as3 := fun m => (g.an A m).elim nA fun z => by
    rw [upd_same] at z
    cases z
  have fA : F3 A = none := by
    rw [g.fn A (by rw [upd_same]; exact fun z => nomatch z)]
    exact ok.fnone hA
  refine ⟨?_, ⟨g.ff, fun p hp => ?_, fun p u hp hn => ?_, fun p hp => ?_, g.ap, fun p m => ?_⟩, ⟨fun p u hp => ?_, ok3.nd, ok3.len, fun i a xs ha hx => ?_⟩⟩
  · funext b
    by_cases e : b = A
    · rw [e, upd_same, h3]
    · rw [upd_ne e, rm_ne e]
  · have ne : p ≠ A := fun e => hp (by rw [e]; exact hA)
    exact g.fn p (by rw [upd_ne ne]; exact hp)
  · have ne : p ≠ A := ne_of_none hp hA
    rw [rm_ne ne]
    exact g.hh p u (by rw [upd_ne ne]; exact hp) hn
  · have ne : p ≠ A := fun e => hp (by rw [e]; exact hA)
    rw [rm_ne ne]
    exact g.hl p (by rw [upd_ne ne]; exact hp)
  · rcases g.an p m with z | z
    · exact .inl z
    · by_cases e : p = A
      · rw [e, upd_same] at z
        cases z
      · rw [upd_ne e] at z
        exact .inr z
  · have ne : p ≠ A := ne_of_none hp fA
    rw [rm_ne ne]
    exact ok3.fh p u hp
  · obtain ⟨h1, ys, h2, h4⟩ := ok3.cell i a xs ha hx
    have ne : a ≠ A := fun e => nA3 (by rw [← e]; exact List.mem_of_getElem? ha)
    exact ⟨h1, ys, by rw [rm_ne ne]; exact h2, h4⟩
theorem xrel_rm {x : Exn} {c : Value} {d : Option Addr} {zs : List V} (h : XRel ct H x c d) (hA : H A = some (.lst zs)) : XRel ct (rm H A) x c d := by
  cases x with
  | net o =>
    obtain ⟨e, dd, fs, h1, h2, h3⟩ := h
    refine ⟨e, dd, fs, h1, ?_, h3⟩
    rw [rm_ne fun q => ?_]
    · exact h2
    · rw [q, hA] at h2
      cases h2
  | _ => exact h
theorem out_hide {α : Type} {n : Nat} {r : Rs α} {P : α → Cs → Hp → Hp → List Addr → Prop} {zs : List V} (ok : Ok K F H as cs) (hA : H A = none) (h : out K ct W0 n F H as r P) :
    out K ct W0 n F (upd H A (.lst zs)) as r fun a cs F3 H3 as3 => H3 = upd (rm H3 A) A (.lst zs) ∧ Gro F H as F3 (rm H3 A) as3 ∧ Ok K F3 (rm H3 A) as3 cs ∧ P a cs F3 (rm H3 A) as3 := by
  cases r with
  | ok a cs' =>
    intro F3 H3 as3 g ok3
    obtain ⟨e, g3, o3⟩ := hide_gro ok hA g ok3
    exact ⟨e, g3, o3, h _ _ _ g3 o3⟩
  | ex x cs' =>
    intro c d σ' F3 H3 as3 l g ok3 hx
    obtain ⟨e, g3, o3⟩ := hide_gro ok hA g ok3
    exact h c d σ' F3 (rm H3 A) as3 l g3 o3 (xrel_rm hx (by rw [e, upd_same]))
  | no => exact h
end
def xLcN (c : Bool) (it : En → M It0) (own : List Nat) (t : Tg) (tt : En → M Bool) (te : En → M D) : En → M D := fun env => M.bnd (it env) fun i =>
  if szOk i.items.length = true then M.bnd (noX (lcGo i.live t tt te (wip env own) i.items)) fun ys => mkL c ys else M.no
section
variable {K : PySem.W.Frag} {ct : Ct} {W : WX}
theorem lc_of {c : Bool} {it : En → M It0} {own : List Nat} {t : Tg} {tt : En → M Bool} {te : En → M D} (ht : ∀ j ∈ t.slots, j ∈ own) {σ : L2.St} {H : Hp} {Q : VK} (h : tD K ct W (xLcN c it own t tt te) σ H Q) :
    tLc (tI K ct W it) (tgR K t) (tT K ct W0 tt) (tD K ct W0 te) own σ H Q := by
  obtain ⟨F, as, env, cs, ok, sl, h⟩ := h
  refine ⟨F, as, env, cs, ok, sl, out_imp (out_bnd h) fun i cs1 F1 H1 as1 g1 ok1 h1 J hJ A hA => ?_⟩
  split at h1
  · rename_i hz
    have h2 := out_noX (W' := W0) (n' := σ.length) (out_bnd h1)
    have slw : Sl K F1 as1 (wipe σ own) (wip env own) := (sl.gro g1).wip own
    refine ⟨fun k m H' => m = i.items.length - k ∧ k ≤ i.items.length ∧ ∃ F2 H2 as2 cs2 ys ds, Gro F1 H1 as1 F2 H2 as2 ∧ Ok K F2 H2 as2 cs2 ∧ H2 A = none ∧ H' = upd H2 A (.lst ys) ∧ DvL K F2 as2 ys ds ∧ ys.length ≤ k ∧
        out K ct W0 σ.length F2 H2 as2 (lcGo i.live t tt te (wip env own) (i.items.drop k) cs2) fun zs cs3 F3 H3 as3 => out K ct W σ.length F3 H3 as3 (mkL c (ds ++ zs) cs3) (oD K Q),
      ⟨i.items.length, by simp, Nat.zero_le _, F1, H1, as1, cs1, [], [], Gro.refl _ _ _, ok1, hA, rfl, .nil, Nat.le_refl _, h2⟩, ?_⟩
    rintro k m H' ⟨rfl, hk, F2, H2, as2, cs2, ys, ds, g2, ok2, hA2, rfl, l2, hl, h3⟩
    cases q : i.items.drop k with
    | nil =>
      rw [q] at h3
      obtain ⟨lv, h3⟩ := out_guard h3
      have ek := drop_nil q hk
      have okA := ok_out (.lst ys) ok2 hA2
      have st := (hJ F2 (upd H2 A (.lst ys)) as2 cs2 (g2.trans (gro_out _ ok2 hA2)) okA lv).2
      refine .inl ⟨by rw [ek]; exact st, ?_⟩
      have h4 := out_ok ok2 h3
      rw [List.append_nil] at h4
      exact new_mk ok2 l2 h4 A hA2
    | cons x r =>
      rw [q] at h3
      obtain ⟨hx, hr, hlt⟩ := getElem_drop q
      obtain ⟨lv, h3⟩ := out_guard h3
      have okA := ok_out (.lst ys) ok2 hA2
      have gA := gro_out (.lst ys) ok2 hA2
      obtain ⟨go, yl⟩ := (hJ F2 _ as2 cs2 (g2.trans gA) okA lv).1 k x hx
      refine .inr ⟨go, fun H' => k + 1 ≤ i.items.length ∧ ∃ F2 H2 as2 cs2 ys ds, Gro F1 H1 as1 F2 H2 as2 ∧ Ok K F2 H2 as2 cs2 ∧ H2 A = none ∧ H' = upd H2 A (.lst ys) ∧ DvL K F2 as2 ys ds ∧ ys.length ≤ k + 1 ∧
        out K ct W0 σ.length F2 H2 as2 (lcGo i.live t tt te (wip env own) (i.items.drop (k + 1)) cs2) fun zs cs3 F3 H3 as3 => out K ct W σ.length F3 H3 as3 (mkL c (ds ++ zs) cs3) (oD K Q),
        fun H' hN => ⟨i.items.length - (k + 1), by omega, rfl, hN⟩, fun v H3 hy => ?_⟩
      obtain ⟨F3, g3, ok3, dv⟩ := yl v H3 hy
      obtain ⟨e3, g3', ok3'⟩ := hide_gro ok2 hA2 g3 ok3
      have slw3 : Sl K F3 as2 (wipe σ own) (wip env own) := (slw.gro g2).gro g3'
      cases q2 : tgS t x (wip env own) with
      | none =>
        rw [q2] at h3
        exact False.elim h3
      | some env1 =>
        rw [q2] at h3
        obtain ⟨σ2, sl2, len2, wp2, tq⟩ := tg_ok ok3 dv slw3 q2
        refine tq _ ⟨?_, ?_⟩
        · rw [wp2 own ht, wipe_idem]
        · have hl2 : σ2.length = σ.length := by rw [len2, wipe_length]
          refine ⟨F3, as2, env1, cs2, ok3, sl2, ?_⟩
          rw [e3, hl2]
          refine out_imp (out_hide ok3' rm_same (out_bnd (out_mono g3' h3))) fun b cs4 F4 H4 as4 _ ok4 h4 => ?_
          obtain ⟨e4, g4, ok4', h4⟩ := h4
          cases b with
          | true =>
            rw [if_pos rfl] at h4 ⊢
            refine ⟨F4, as4, env1, cs4, ok4, sl2.gro g4, ?_⟩
            rw [e4, hl2]
            refine out_imp (out_hide ok4' rm_same (out_bnd h4)) fun y cs5 F5 H5 as5 _ ok5 h5 w hw => ?_
            obtain ⟨e5, g5, ok5', h5⟩ := h5
            refine ⟨ys, by rw [e5, upd_same], Nat.lt_of_le_of_lt hl (Nat.lt_of_lt_of_le hlt (szOk_le hz)), by omega, F5, rm H5 A, as5, cs5, ys ++ [w], ds ++ [y], ((g2.trans g3').trans g4).trans g5, ok5', rm_same, ?_, ((((l2.gro g3').gro g4).gro g5)).append (.cons hw .nil), by rw [List.length_append]; exact Nat.succ_le_succ hl, ?_⟩
            · exact upd_rm.symm
            · rw [hr]
              refine out_imp (out_bnd h5) fun zs cs6 F6 H6 as6 _ ok6 h6 => ?_
              have h7 := out_ok ok6 h6
              rw [List.append_assoc]
              exact h7
          | false =>
            rw [if_neg Bool.false_ne_true] at h4 ⊢
            exact ⟨by omega, F4, rm H4 A, as4, cs4, ys, ds, (g2.trans g3').trans g4, ok4', rm_same, e4, (l2.gro g3').gro g4, Nat.le_succ_of_le hl, by rw [hr]; exact h4⟩
  · exact False.elim h1
end
end G
/-! G4: statements. -/
namespace G
open L2 PySem PySem.Spec PyProof.Rows
section
variable {X : Cx} {ct : Ct} {W : WX} {pos : Pos}
/-! ### comprehensions, as rules -/
theorem gts_nil : PTs X [] (tT X.K ct W bYes) := ⟨fun pins s σ H Q I h => pts_nil.run pins s σ H Q I (by
  obtain ⟨F, as, env, cs, ok, sl, h⟩ := h
  exact out_ok ok h)⟩
theorem gts_one {c : Expr} {b : En → M Bool} (h : PT X c (tT X.K ct W b)) : PTs X [c] (tT X.K ct W b) := pts_one h
theorem ge_lc (c : Bool) {elt tg iter : Expr} {ifs : List Expr} {scope : Scope} {own : List (Str × Nat)} {it : En → M It0} {t : Tg} {tt : En → M Bool} {te : En → M D} (hc : X.calm = true) (hN : X.N.Nodup) (hi : PI X tg iter (tI X.K ct W it)) (ok : BlkOk X.N X.env.scope scope own) (hsl : ∀ j ∈ t.slots, j ∈ own.map (·.2))
    (hg : ∀ (s : Shared) (H : Hp) (C : Addr) (cl : List (Str × Addr)) (fp : List Addr), PG (X.blk s H scope (compEnvC scope cl C X.env) fp) tg (tgR X.K t)) (ht : ∀ (s : Shared) (H : Hp) (C : Addr) (cl : List (Str × Addr)) (fp : List Addr), PTs (X.blk s H scope (compEnvC scope cl C X.env) fp) ifs (tT X.K ct W0 tt))
    (he : ∀ (s : Shared) (H : Hp) (C : Addr) (cl : List (Str × Addr)) (fp : List Addr), PE (X.blk s H scope (compEnvC scope cl C X.env) fp) elt (tD X.K ct W0 te)) (hs : ∀ x, foldedSetIterable iter X.env x = pure x := by intro _; rfl) :
    PE X (.ListComp elt [⟨tg, iter, ifs, 0⟩] scope pos) (tD X.K ct W (xLcN c it (own.map (·.2)) t tt te)) := PE.imp (pe_lc hc hN hi ok hg ht he hs) fun _ _ _ h => lc_of hsl h
/-! ### statements -/
def sSeq (a b : En → M Fl) : En → M Fl := fun env => M.bnd (a env) fun f => match f with
  | .nx e => b e
  | f => M.ret f
def sSkip : En → M Fl := fun env => M.ret (.nx env)
variable {st : Stmt} {rest body els : List Stmt} {e : Expr} {a b : En → M Fl} {m : En → M D}
theorem seq_of {K : PySem.W.Frag} {D : Ends} {σ : L2.St} {H : Hp} (h : tS K ct W (sSeq a b) D σ H) : tSeq (tS K ct W a) (tS K ct W b) D σ H := by
  obtain ⟨F, as, env, cs, ok, sl, h⟩ := h
  refine ⟨F, as, env, cs, ok, sl, out_imp (out_bnd h) fun f cs1 F1 H1 as1 g ok1 h1 => ?_⟩
  cases f with
  | nx env' =>
    intro σ' hl sl'
    refine ⟨F1, as1, env', cs1, ok1, sl', ?_⟩
    rw [hl]
    exact h1
  | rt d => exact h1 F1 H1 as1 (Gro.refl F1 H1 as1) ok1
  | bk env' => exact h1 F1 H1 as1 (Gro.refl F1 H1 as1) ok1
  | ct env' => exact h1 F1 H1 as1 (Gro.refl F1 H1 as1) ok1
theorem gs_cons (h1 : PS X st (tS X.K ct W a)) (h2 : PSs X rest (tS X.K ct W b)) : PSs X (st :: rest) (tS X.K ct W (sSeq a b)) := PSs.imp (pss_cons h1 h2) fun _ _ _ => seq_of
theorem gs_one (h : PS X st (tS X.K ct W a)) : PSs X [st] (tS X.K ct W a) := pss_one h
theorem gs_nil : PSs X [] (tS X.K ct W sSkip) := PSs.imp pss_nil (by
  rintro D σ H ⟨F, as, env, cs, ok, sl, h⟩
  exact out_ok ok h σ rfl sl)
/-- x = e, a, b = e -/
def sAsg (m : En → M D) (t : Tg) : En → M Fl := fun env => M.bnd (m env) fun d => match tgS t d env with
  | some e => M.ret (.nx e)
  | none => M.no
theorem asg_of {K : PySem.W.Frag} {t : Tg} {te : TE} {D : Ends} {σ : L2.St} {H : Hp} (k : ∀ Q, tD K ct W m σ H Q → te σ H Q) (h : tS K ct W (sAsg m t) D σ H) : tAsg te (tgR K t) D σ H := by
  obtain ⟨F, as, env, cs, ok, sl, h⟩ := h
  refine k _ ⟨F, as, env, cs, ok, sl, out_imp (out_bnd h) fun d cs1 F1 H1 as1 g ok1 h1 v hv => ?_⟩
  cases q : tgS t d env with
  | none =>
    rw [q] at h1
    exact False.elim h1
  | some env1 =>
    rw [q] at h1
    obtain ⟨σ', sl', hl, _, tq⟩ := tg_ok ok1 hv (sl.gro g) q
    exact tq _ (out_ok ok1 h1 σ' hl sl')
theorem gs_asg {t : Tg} (h : PS X st (tAsg (tD X.K ct W m) (tgR X.K t))) : PS X st (tS X.K ct W (sAsg m t)) := PS.imp h fun _ _ _ h => asg_of (fun _ q => q) h
theorem gs_lc {i : Nat} {c : Bool} {own : List (Str × Nat)} {it : En → M It0} {t : Tg} {tt : En → M Bool} {te : En → M D} (hsl : ∀ j ∈ t.slots, j ∈ own.map (·.2)) (h : PS X st (tAsg (tLc (tI X.K ct W it) (tgR X.K t) (tT X.K ct W0 tt) (tD X.K ct W0 te) (own.map (·.2))) (gName i))) : PS X st (tS X.K ct W (sAsg (xLcN c it (own.map (·.2)) t tt te) (.nm i))) :=
  PS.imp h fun _ _ _ h => asg_of (t := .nm i) (fun _ q => lc_of hsl q) h
/-- an expression alone -/
def sDrop (m : En → M D) : En → M Fl := fun env => M.bnd (m env) fun _ => M.ret (.nx env)
theorem gs_drop (he : PE X e (tD X.K ct W m)) (hs : swapsWith e none pos.line X.env = pure false := by rfl) : PS X (.Expr e pos) (tS X.K ct W (sDrop m)) := PS.imp (ps_expr he hs) (by
  rintro D σ H ⟨F, as, env, cs, ok, sl, h⟩
  exact ⟨F, as, env, cs, ok, sl, out_imp (out_bnd h) fun d cs1 F1 H1 as1 g ok1 h1 v hv => out_ok ok1 h1 σ rfl (sl.gro g)⟩)
def sRet (m : En → M D) : En → M Fl := fun env => M.bnd (m env) fun d => M.ret (.rt d)
theorem gs_ret (he : PE X e (tD X.K ct W m)) : PS X (.Return (some e) pos) (tS X.K ct W (sRet m)) := PS.imp (ps_ret he) (by
  rintro D σ H ⟨F, as, env, cs, ok, sl, h⟩
  exact ⟨F, as, env, cs, ok, sl, out_imp (out_bnd h) fun d cs1 F1 H1 as1 g ok1 h1 v hv => out_ok ok1 h1 v hv⟩)
def sIf (t : En → M Bool) (a b : En → M Fl) : En → M Fl := fun env => M.bnd (t env) fun k => if k = true then a env else b env
theorem gs_if {c : Expr} {t : En → M Bool} (hc : PT X c (tT X.K ct W t)) (ha : PSs X body (tS X.K ct W a)) (hb : PSs X els (tS X.K ct W b)) : PS X (.If c body els pos) (tS X.K ct W (sIf t a b)) := PS.imp (ps_if hc ha hb) (by
  rintro D σ H ⟨F, as, env, cs, ok, sl, h⟩
  refine ⟨F, as, env, cs, ok, sl, out_imp (out_bnd h) fun k cs1 F1 H1 as1 g ok1 h1 => ?_⟩
  cases k with
  | true => exact ⟨F1, as1, env, cs1, ok1, sl.gro g, h1⟩
  | false => exact ⟨F1, as1, env, cs1, ok1, sl.gro g, h1⟩)
/-- while, by fuel -/
def sWhile (t : En → M Bool) (b : En → M Fl) : Nat → En → M Fl
  | 0 => fun _ => M.no
  | n + 1 => fun env => M.bnd (t env) fun k => if k = true then M.bnd (b env) fun f => match f with
    | .nx e => sWhile t b n e
    | .ct e => sWhile t b n e
    | .bk e => M.ret (.nx e)
    | .rt d => M.ret (.rt d)
    else M.ret (.nx env)
theorem gs_while (n : Nat) {c : Expr} {t : En → M Bool} (hp : PassesOwn (model X.prog X.w) X.A X.env X.xe) (hc : PT X c (tT X.K ct W t)) (hb : PSs X body (tS X.K ct W b)) : PS X (.While c body [] pos) (tS X.K ct W (sWhile t b n)) := PS.imp (ps_while hp hc hb) (by
  intro D σ H h
  refine ⟨fun k σ' H' => σ'.length = σ.length ∧ tS X.K ct W (sWhile t b k) D σ' H', ⟨n, rfl, h⟩, ?_⟩
  rintro k σ' H' ⟨hl, F, as, env, cs, ok, sl, h⟩
  cases k with
  | zero => exact False.elim h
  | succ k =>
    refine ⟨F, as, env, cs, ok, sl, out_imp (out_bnd h) fun q cs1 F1 H1 as1 g ok1 h1 => ?_⟩
    cases q with
    | false => exact out_ok ok1 h1 σ' rfl (sl.gro g)
    | true =>
      rw [if_pos rfl] at h1 ⊢
      refine ⟨fun σ2 H2 => σ2.length = σ.length ∧ tS X.K ct W (sWhile t b k) D σ2 H2, fun σ2 H2 z => ⟨k, Nat.lt_succ_self k, z⟩, F1, as1, env, cs1, ok1, sl.gro g, out_imp (out_bnd h1) fun f cs2 F2 H2 as2 g2 ok2 h2 => ?_⟩
      cases f with
      | nx e => exact fun σ2 hl2 sl2 => ⟨hl2.trans hl, F2, as2, e, cs2, ok2, sl2, by rw [hl2]; exact h2⟩
      | ct e => exact fun σ2 hl2 sl2 => ⟨hl2.trans hl, F2, as2, e, cs2, ok2, sl2, by rw [hl2]; exact h2⟩
      | bk e =>
        intro σ2 hl2 sl2
        exact h2 F2 H2 as2 (Gro.refl F2 H2 as2) ok2 σ2 hl2 sl2
      | rt d => exact h2 F2 H2 as2 (Gro.refl F2 H2 as2) ok2)
/-- for -/
def forGo (live : Cs → Bool) (t : Tg) (b : En → M Fl) : List D → En → M Fl
  | [], env => guardM live (M.ret (.nx env))
  | x :: r, env => guardM live (match tgS t x env with
    | some env1 => M.bnd (b env1) fun f => match f with
      | .nx e => forGo live t b r e
      | .ct e => forGo live t b r e
      | .bk e => M.ret (.nx e)
      | .rt d => M.ret (.rt d)
    | none => M.no)
def sFor (it : En → M It0) (t : Tg) (b : En → M Fl) : En → M Fl := fun env => M.bnd (it env) fun i => forGo i.live t b i.items env
theorem gs_for {tg iter : Expr} {it : En → M It0} {t : Tg} (hp : PassesOwn (model X.prog X.w) X.A X.env X.xe) (hc : X.calm = true) (hi : PI X tg iter (tI X.K ct W it)) (hg : PG X tg (tgR X.K t)) (hb : PSs X body (tS X.K ct W b)) (hs : ∀ x, foldedSetIterable iter X.env x = pure x := by intro _; rfl) :
    PS X (.For tg iter body [] pos) (tS X.K ct W (sFor it t b)) := PS.imp (ps_for hp hc hi hg hb hs) (by
  rintro D σ H ⟨F, as, env, cs, ok, sl, h⟩
  refine ⟨F, as, env, cs, ok, sl, out_imp (out_bnd h) fun i cs1 F1 H1 as1 g1 ok1 h1 J hJ => ?_⟩
  refine ⟨fun k m σ' H' => m = i.items.length - k ∧ k ≤ i.items.length ∧ σ'.length = σ.length ∧ ∃ F2 as2 env2 cs2, Gro F1 H1 as1 F2 H' as2 ∧ Ok X.K F2 H' as2 cs2 ∧ Sl X.K F2 as2 σ' env2 ∧ out X.K ct W σ.length F2 H' as2 (forGo i.live t b (i.items.drop k) env2 cs2) (oS X.K σ.length D),
    ⟨i.items.length, by simp, Nat.zero_le _, rfl, F1, as1, env, cs1, Gro.refl _ _ _, ok1, sl.gro g1, h1⟩, ?_⟩
  rintro k m σ' H' ⟨rfl, hk, hl, F2, as2, env2, cs2, g2, ok2, sl2, h2⟩
  cases q : i.items.drop k with
  | nil =>
    rw [q] at h2
    obtain ⟨lv, h2⟩ := out_guard h2
    have ek := drop_nil q hk
    exact .inl ⟨by rw [ek]; exact (hJ F2 H' as2 cs2 g2 ok2 lv).2, out_ok ok2 h2 σ' hl sl2⟩
  | cons x r =>
    rw [q] at h2
    obtain ⟨hx, hr, hlt⟩ := getElem_drop q
    obtain ⟨lv, h2⟩ := out_guard h2
    obtain ⟨go, yl⟩ := (hJ F2 H' as2 cs2 g2 ok2 lv).1 k x hx
    refine .inr ⟨go, fun σ3 H3 => k + 1 ≤ i.items.length ∧ σ3.length = σ.length ∧ ∃ F2 as2 env2 cs2, Gro F1 H1 as1 F2 H3 as2 ∧ Ok X.K F2 H3 as2 cs2 ∧ Sl X.K F2 as2 σ3 env2 ∧ out X.K ct W σ.length F2 H3 as2 (forGo i.live t b (i.items.drop (k + 1)) env2 cs2) (oS X.K σ.length D),
      fun σ3 H3 z => ⟨i.items.length - (k + 1), by omega, rfl, z⟩, fun v H3 hy => ?_⟩
    obtain ⟨F3, g3, ok3, dv⟩ := yl v H3 hy
    cases q2 : tgS t x env2 with
    | none =>
      rw [q2] at h2
      exact False.elim h2
    | some env3 =>
      rw [q2] at h2
      obtain ⟨σ3, sl3, l3, _, tq⟩ := tg_ok ok3 dv (sl2.gro g3) q2
      have hl3 : σ3.length = σ.length := l3.trans hl
      refine tq _ ⟨F3, as2, env3, cs2, ok3, sl3, ?_⟩
      rw [hl3]
      refine out_imp (out_bnd (out_mono g3 h2)) fun f cs4 F4 H4 as4 g4 ok4 h4 => ?_
      cases f with
      | nx e => exact fun σ4 l4 sl4 => ⟨by omega, l4, F4, as4, e, cs4, (g2.trans g3).trans g4, ok4, sl4, by rw [hr]; exact h4⟩
      | ct e => exact fun σ4 l4 sl4 => ⟨by omega, l4, F4, as4, e, cs4, (g2.trans g3).trans g4, ok4, sl4, by rw [hr]; exact h4⟩
      | bk e => exact h4 F4 H4 as4 (Gro.refl F4 H4 as4) ok4
      | rt d => exact h4 F4 H4 as4 (Gro.refl F4 H4 as4) ok4)
/-! ### cells written -/
def cApp (i : Nat) (y : D) : M D := fun cs => match cs[i]? with
  | some xs => if szOk xs.length = true then .ok .non (cs.set i (xs ++ [y])) else .no
  | none => .no
def cPop (i : Nat) : M D := fun cs => match cs[i]? with
  | some xs => (match xs[xs.length - 1]? with
    | some y => .ok y (cs.set i xs.dropLast)
    | none => .no)
  | none => .no
def cPopAt (i : Nat) : D → M D
  | .int k => fun cs => match cs[i]? with
    | some xs => if decide (0 ≤ k ∧ k < xs.length ∧ k < 2 ^ 63) = true then (match xs[k.toNat]? with
      | some y => .ok y (cs.set i (xs.eraseIdx k.toNat))
      | none => .no) else .no
    | none => .no
  | _ => M.no
def xApp (o v : En → M D) : En → M D := fun env => M.bnd (o env) fun d => match d with
  | .ref i => M.bnd (v env) (cApp i)
  | _ => M.no
def xPop (o : En → M D) : En → M D := fun env => M.bnd (o env) fun d => match d with
  | .ref i => cPop i
  | _ => M.no
def xPopAt (o v : En → M D) : En → M D := fun env => M.bnd (o env) fun d => match d with
  | .ref i => M.bnd (v env) (cPopAt i)
  | _ => M.no
def sSetIx (v o i : En → M D) : En → M Fl := fun env => M.bnd (v env) fun y => M.bnd (o env) fun d => M.bnd (i env) fun k => match d, k with
  | .ref a, .int j => fun cs => match cs[a]? with
    | some xs => (match ixN xs.length j with
      | some n => .ok (.nx env) (cs.set a (xs.set n y))
      | none => .no)
    | none => .no
  | _, _ => M.no
variable {o i : Expr} {mo mi : En → M D} {apos : Pos}
theorem ref_at {K : PySem.W.Frag} {F H : Hp} {as : List Addr} {cs : Cs} {v : V} {i : Nat} {xs : List D} (ok : Ok K F H as cs) (h : Dv K F as v (.ref i)) (e : cs[i]? = some xs) : ∃ a ys, v = .ref a ∧ as[i]? = some a ∧ H a = some (.lst ys) ∧ DvL K F as ys xs := by
  cases h with
  | ref h1 =>
    obtain ⟨_, ys, h2, h3⟩ := ok.cell _ _ _ h1 e
    exact ⟨_, ys, rfl, h1, h2, h3⟩
theorem tyV_list {K : PySem.W.Frag} {H : Hp} {a : Addr} {ys : List V} (h : H a = some (.lst ys)) : tyV K "list" (.ref a) H := .inl ⟨rfl, ys, SqL.of h⟩
theorem tyV_ref {K : PySem.W.Frag} {F H : Hp} {as : List Addr} {cs : Cs} {v : V} {i : Nat} (ok : Ok K F H as cs) (h : Dv K F as v (.ref i)) : tyV K "list" v H := by
  cases h with
  | ref h1 =>
    obtain ⟨_, ys, h2⟩ := ok.old (List.mem_of_getElem? h1)
    exact tyV_list h2
theorem DvL.dropLast {K : PySem.W.Frag} {F : Hp} {as : List Addr} {vs : List V} {ds : List D} (h : DvL K F as vs ds) : DvL K F as vs.dropLast ds.dropLast := by
  rw [List.dropLast_eq_take, List.dropLast_eq_take, h.length]
  exact h.take _
theorem ge_app (ho : PE X o (tD X.K ct W mo)) (he : PE X e (tD X.K ct W m)) (hbase : attributeBase o "append" X.env (eval o X.env) = eval o X.env := by rfl)
    (hfew : ((backTo pos (starEach [e] X.env)).all (fun x => !x.1) && (backToKw pos (keywordEach [] X.env)).all (fun x => x.1.isSome) && decide (([e] : List Expr).length + ([] : List Keyword).length + (if ([] : List Keyword).isEmpty then 0 else 1) < 30)) = true := by rfl)
    (hline : (apos.endLine == pos.line) = true := by rfl) (hs : starEach [e] X.env = (false, eval e X.env) :: starEach [] X.env := by rfl) (hplain : (backTo pos (starEach [] X.env)).any (·.1) = false := by rfl) :
    PE X (.Call (.Attribute o "append" apos) [e] [] pos) (tD X.K ct W (xApp mo m)) := PE.imp (pe_bm PySem.F.plainAttrs_list PySem.F.slot_list_append PySem.F.type_list_append mt_append ho (pa_cons he pa_nil hs) hbase hfew hline hs hplain) (by
  rintro σ H Q ⟨F, as, env, cs, ok, sl, h⟩
  refine ⟨F, as, env, cs, ok, sl, out_imp (out_bnd h) fun d cs1 F1 H1 as1 g1 ok1 h1 v hv => ?_⟩
  split at h1
  · rename_i i
    refine ⟨tyV_ref ok1 hv, F1, as1, env, cs1, ok1, sl.gro g1, out_imp (out_bnd h1) fun y cs2 F2 H2 as2 g2 ok2 h2 u hu => ?_⟩
    unfold cApp at h2
    split at h2
    · split at h2
      · rename_i xs e1 q
        obtain ⟨a, ys, rfl, ha, hH, l⟩ := ref_at ok2 (hv.gro g2) e1
        exact ⟨a, ys, u, rfl, rfl, hH, by rw [l.length]; exact szOk_lt q, h2 _ _ as2 (gro_set _ ok2 ha hH) (ok_set ok2 ha (l.append (.cons hu .nil))) _ .non⟩
      · exact False.elim h2
    · exact False.elim h2
  · exact False.elim h1)
theorem ge_pop (ho : PE X o (tD X.K ct W mo)) (hbase : attributeBase o "pop" X.env (eval o X.env) = eval o X.env := by rfl) (hline : (apos.endLine == pos.line) = true := by rfl) :
    PE X (.Call (.Attribute o "pop" apos) [] [] pos) (tD X.K ct W (xPop mo)) := PE.imp (pe_bm0 PySem.F.plainAttrs_list PySem.F.slot_list_pop PySem.F.type_list_pop mt_pop ho hbase hline) (by
  rintro σ H Q ⟨F, as, env, cs, ok, sl, h⟩
  refine ⟨F, as, env, cs, ok, sl, out_imp (out_bnd h) fun d cs1 F1 H1 as1 g1 ok1 h1 v hv => ?_⟩
  split at h1
  · rename_i i
    refine ⟨tyV_ref ok1 hv, ?_⟩
    unfold cPop at h1
    split at h1
    · rename_i xs e1
      obtain ⟨a, ys, rfl, ha, hH, l⟩ := ref_at ok1 hv e1
      cases q : xs[xs.length - 1]? with
      | none =>
        rw [q] at h1
        exact False.elim h1
      | some y =>
        rw [q] at h1
        obtain ⟨w, hw, dw⟩ := l.get q
        exact ⟨a, ys, w, rfl, rfl, hH, by rw [l.length]; exact hw, h1 _ _ as1 (gro_set _ ok1 ha hH) (ok_set ok1 ha l.dropLast) _ dw⟩
    · exact False.elim h1
  · exact False.elim h1)
theorem ge_popAt (ho : PE X o (tD X.K ct W mo)) (he : PE X e (tD X.K ct W m)) (hbase : attributeBase o "pop" X.env (eval o X.env) = eval o X.env := by rfl)
    (hfew : ((backTo pos (starEach [e] X.env)).all (fun x => !x.1) && (backToKw pos (keywordEach [] X.env)).all (fun x => x.1.isSome) && decide (([e] : List Expr).length + ([] : List Keyword).length + (if ([] : List Keyword).isEmpty then 0 else 1) < 30)) = true := by rfl)
    (hline : (apos.endLine == pos.line) = true := by rfl) (hs : starEach [e] X.env = (false, eval e X.env) :: starEach [] X.env := by rfl) (hplain : (backTo pos (starEach [] X.env)).any (·.1) = false := by rfl) :
    PE X (.Call (.Attribute o "pop" apos) [e] [] pos) (tD X.K ct W (xPopAt mo m)) := PE.imp (pe_bm PySem.F.plainAttrs_list PySem.F.slot_list_pop PySem.F.type_list_pop mt_popAt ho (pa_cons he pa_nil hs) hbase hfew hline hs hplain) (by
  rintro σ H Q ⟨F, as, env, cs, ok, sl, h⟩
  refine ⟨F, as, env, cs, ok, sl, out_imp (out_bnd h) fun d cs1 F1 H1 as1 g1 ok1 h1 v hv => ?_⟩
  split at h1
  · rename_i i
    refine ⟨tyV_ref ok1 hv, F1, as1, env, cs1, ok1, sl.gro g1, out_imp (out_bnd h1) fun y cs2 F2 H2 as2 g2 ok2 h2 u hu => ?_⟩
    unfold cPopAt at h2
    split at h2
    · rename_i k
      try dsimp only at h2
      split at h2
      · split at h2
        · rename_i xs e1 q
          obtain ⟨q1, q2, q3⟩ := of_decide_eq_true q
          obtain ⟨a, ys, rfl, ha, hH, l⟩ := ref_at ok2 (hv.gro g2) e1
          cases hu
          cases q4 : xs[k.toNat]? with
          | none =>
            rw [q4] at h2
            exact False.elim h2
          | some y =>
            rw [q4] at h2
            obtain ⟨w, hw, dw⟩ := l.get q4
            exact ⟨a, ys, k, k.toNat, w, rfl, rfl, hH, by omega, q3, seqIndex_of q1 (by rw [l.length]; exact q2), hw, h2 _ _ as2 (gro_set _ ok2 ha hH) (ok_set ok2 ha (l.eraseIdx _)) _ dw⟩
        · exact False.elim h2
      · exact False.elim h2
    · exact False.elim h2
  · exact False.elim h1)
theorem gs_setIx (h : PS X st (tAsg (tD X.K ct W m) (gSub (tD X.K ct W mo) (tD X.K ct W mi) rSetL))) : PS X st (tS X.K ct W (sSetIx m mo mi)) := PS.imp h (by
  rintro D σ H ⟨F, as, env, cs, ok, sl, h⟩
  refine ⟨F, as, env, cs, ok, sl, out_imp (out_bnd h) fun y cs1 F1 H1 as1 g1 ok1 h1 v hv => ?_⟩
  refine ⟨F1, as1, env, cs1, ok1, sl.gro g1, out_imp (out_bnd h1) fun d cs2 F2 H2 as2 g2 ok2 h2 u hu => ?_⟩
  refine ⟨F2, as2, env, cs2, ok2, (sl.gro g1).gro g2, out_imp (out_bnd h2) fun k cs3 F3 H3 as3 g3 ok3 h3 w hw => ?_⟩
  split at h3
  · rename_i i j
    try dsimp only at h3
    split at h3
    · rename_i xs e1
      obtain ⟨a, ys, rfl, ha, hH, l⟩ := ref_at ok3 (hu.gro g3) e1
      cases hw
      cases q : ixN xs.length j with
      | none =>
        rw [q] at h3
        exact False.elim h3
      | some n =>
        rw [q] at h3
        have g4 := gro_set (.lst (ys.set n v)) ok3 ha hH
        exact ⟨a, ys, j, n, rfl, rfl, hH, by rw [l.length]; exact q, h3 _ _ as3 g4 (ok_set ok3 ha (l.set ((hv.gro g2).gro g3) n)) σ rfl (((sl.gro g1).gro g2).gro g3 |>.gro g4)⟩
    · exact False.elim h3
  · exact False.elim h3)
end
end G
/-! G5: defs, calls, refusals. -/
namespace G
open L2 PySem PySem.Spec PyProof.Rows
/-! ### cells resolved -/
mutual
def rsG (r : Nat → Option D) : D → Option D
  | .tup xs => (rsGL r xs).map .tup
  | .lst xs => (rsGL r xs).map .lst
  | .ref i => r i
  | .non => some .non
  | .bl b => some (.bl b)
  | .int i => some (.int i)
  | .str x => some (.str x)
  | .dic => some .dic
  | .scr ns => some (.scr ns)
def rsGL (r : Nat → Option D) : List D → Option (List D)
  | [] => some []
  | d :: ds => match rsG r d, rsGL r ds with
    | some p, some ps => some (p :: ps)
    | _, _ => none
end
def rsN (cs : Cs) : Nat → Nat → Option D
  | 0, _ => none
  | n + 1, i => match cs[i]? with
    | some xs => (rsGL (rsN cs n) xs).map .lst
    | none => none
def res (cs : Cs) (d : D) : Option D := rsG (rsN cs 3) d
open Classical in
noncomputable def frz (F H : Hp) (as : List Addr) : Hp := fun p => if p ∈ as then H p else F p
section
variable {K : PySem.W.Frag} {F H F0 H0 : Hp} {as : List Addr} {cs : Cs}
theorem frz_in {p : Addr} (h : p ∈ as) : frz F H as p = H p := if_pos h
theorem frz_out {p : Addr} (h : p ∉ as) : frz F H as p = F p := if_neg h
theorem ext_frz (ok : Ok K F H as cs) : Ext F (frz F H as) := fun p o h => by
  rw [frz_out fun m => by
    rw [(ok.old m).1] at h
    cases h]
  exact h
theorem frz_ext (ok : Ok K F H as cs) : Ext (frz F H as) H := fun p o h => by
  by_cases m : p ∈ as
  · rw [frz_in m] at h
    exact h
  · rw [frz_out m] at h
    exact ok.fh p o h
theorem ok_frz (ok : Ok K F H as cs) : Ok K (frz F H as) H [] [] := ⟨frz_ext ok, List.nodup_nil, rfl, fun i a xs h _ => by simp at h⟩
theorem gro_frz (ok : Ok K F H as cs) (g : Gro F0 H0 [] F H as) : Gro F0 H0 [] (frz F H as) H [] where
  ff := g.ff.trans (ext_frz ok)
  fn := fun p h => by
    rw [frz_out fun m => (g.an p m).elim (fun z => nomatch z) h]
    exact g.fn p h
  hh := g.hh
  hl := g.hl
  ap := List.prefix_rfl
  an := fun _ m => .inl m
mutual
theorem rsG_dv (ok : Ok K F H as cs) {r : Nat → Option D} (hr : ∀ i p a, r i = some p → as[i]? = some a → Dv K (frz F H as) [] (.ref a) p) : ∀ {v : V} {d p : D}, Dv K F as v d → rsG r d = some p → Dv K (frz F H as) [] v p
  | _, _, _, .non, e => by
    cases e
    exact .non
  | _, _, _, .bl b, e => by
    cases e
    exact .bl b
  | _, _, _, .int i, e => by
    cases e
    exact .int i
  | _, _, _, .str x, e => by
    cases e
    exact .str x
  | _, _, p, .tup (ds := ds) h l, e => by
    have e2 : (rsGL r ds).map D.tup = some p := e
    cases q : rsGL r ds with
    | none =>
      rw [q] at e2
      cases e2
    | some ps =>
      rw [q] at e2
      cases e2
      exact .tup (ext_frz ok _ _ h) (rsGL_dv ok hr l q)
  | _, _, p, .lst (ds := ds) h l, e => by
    have e2 : (rsGL r ds).map D.lst = some p := e
    cases q : rsGL r ds with
    | none =>
      rw [q] at e2
      cases e2
    | some ps =>
      rw [q] at e2
      cases e2
      exact .lst (ext_frz ok _ _ h) (rsGL_dv ok hr l q)
  | _, _, _, .ref h, e => hr _ _ _ e h
  | _, _, _, .dic h, e => by
    cases e
    exact .dic (ext_frz ok _ _ h)
  | _, _, _, .scr h, e => by
    cases e
    exact .scr (ext_l (ext_frz ok) h)
theorem rsGL_dv (ok : Ok K F H as cs) {r : Nat → Option D} (hr : ∀ i p a, r i = some p → as[i]? = some a → Dv K (frz F H as) [] (.ref a) p) : ∀ {vs : List V} {ds ps : List D}, DvL K F as vs ds → rsGL r ds = some ps → DvL K (frz F H as) [] vs ps
  | _, _, _, .nil, e => by
    cases e
    exact .nil
  | _, _, ps, .cons (d := d) (ds := ds) h t, e => by
    have e2 : (match rsG r d, rsGL r ds with
      | some p, some ps => some (p :: ps)
      | _, _ => none) = some ps := e
    split at e2
    · rename_i p qs e3 e4
      cases e2
      exact .cons (rsG_dv ok hr h e3) (rsGL_dv ok hr t e4)
    · cases e2
end
theorem rsN_dv (ok : Ok K F H as cs) : ∀ (n i : Nat) (p : D) (a : Addr), rsN cs n i = some p → as[i]? = some a → Dv K (frz F H as) [] (.ref a) p
  | 0, _, _, _, e, _ => by cases e
  | n + 1, i, p, a, e, ha => by
    have e2 : (match cs[i]? with
      | some xs => (rsGL (rsN cs n) xs).map D.lst
      | none => none) = some p := e
    cases hc : cs[i]? with
    | none =>
      rw [hc] at e2
      cases e2
    | some xs =>
      rw [hc] at e2
      have e3 : (rsGL (rsN cs n) xs).map D.lst = some p := e2
      obtain ⟨_, ys, h1, h2⟩ := ok.cell i a xs ha hc
      cases q : rsGL (rsN cs n) xs with
      | none =>
        rw [q] at e3
        cases e3
      | some ps =>
        rw [q] at e3
        cases e3
        exact .lst (by rw [frz_in (List.mem_of_getElem? ha)]; exact h1) (rsGL_dv ok (rsN_dv ok n) h2 q)
theorem res_dv (ok : Ok K F H as cs) {v : V} {d p : D} (h : Dv K F as v d) (e : res cs d = some p) : Dv K (frz F H as) [] v p := rsG_dv ok (rsN_dv ok 3) h e
/-! ### data without cells -/
mutual
def noR : D → Bool
  | .ref _ => false
  | .tup xs => noRL xs
  | .lst xs => noRL xs
  | _ => true
def noRL : List D → Bool
  | [] => true
  | d :: ds => noR d && noRL ds
end
mutual
theorem Dv.noR : ∀ {v : V} {d : D}, Dv K F as v d → G.noR d = true → Dv K F [] v d
  | _, _, .non, _ => .non
  | _, _, .bl b, _ => .bl b
  | _, _, .int i, _ => .int i
  | _, _, .str x, _ => .str x
  | _, _, .tup h l, e => .tup h (DvL.noR l e)
  | _, _, .lst h l, e => .lst h (DvL.noR l e)
  | _, _, .ref _, e => by cases e
  | _, _, .dic h, _ => .dic h
  | _, _, .scr h, _ => .scr h
theorem DvL.noR : ∀ {vs : List V} {ds : List D}, DvL K F as vs ds → G.noRL ds = true → DvL K F [] vs ds
  | _, _, .nil, _ => .nil
  | _, _, .cons h t, e => by
    obtain ⟨e1, e2⟩ := Bool.and_eq_true_iff.mp (show (G.noR _ && G.noRL _) = true from e)
    exact .cons (Dv.noR h e1) (DvL.noR t e2)
end
end
/-! ### what a def is worth -/
inductive Rp where
  | ok (d : D) | ex (x : Exn) | no
def up : Rp → M D
  | .ok d => M.ret d
  | .ex x => M.thr x
  | .no => M.no
def startE (k : Nat) (ds : List D) : En := ds.map some ++ List.replicate (k - ds.length) none
def runP (c : En → M Fl) (k : Nat) (ds : List D) : Rp := match c (startE k ds) [] with
  | .ok (.rt d) cs => (match res cs d with
    | some p => .ok p
    | none => .no)
  | .ok (.nx _) _ => .ok .non
  | .ok _ _ => .no
  | .ex x _ => .ex x
  | .no => .no
def runM (c : En → M Fl) (k : Nat) (ds : List D) : M D := M.bnd (c (startE k ds)) fun f => match f with
  | .rt d => M.ret d
  | .nx _ => M.ret .non
  | _ => M.no
def spM (K : PySem.W.Frag) (ct : Ct) (n : Nat) (f : List D → M D) : Sp := fun vs H Q E => ∃ F as ds cs, Ok K F H as cs ∧ DvL K F as vs ds ∧ ds.length = n ∧ out K ct (fun c d _ H => E c d H) 0 F H as (f ds cs) (oD K Q)
def spP (K : PySem.W.Frag) (ct : Ct) (n : Nat) (f : List D → Rp) : Sp := fun vs H Q E => ∃ F ds, Ok K F H [] [] ∧ DvL K F [] vs ds ∧ ds.length = n ∧ out K ct (fun c d _ H => E c d H) 0 F H [] (up (f ds) []) (oD K Q)
/-- its list is a new one, nobody else's -/
def oO (K : PySem.W.Frag) (H0 : Hp) (Q : VK) : D → Cs → Hp → Hp → List Addr → Prop := fun d _ F' H' as' => match d with
  | .lst xs => ∀ p ys, H0 p = none → F' p = none → H' p = some (.lst ys) → DvL K F' [] ys xs → Q (.ref p) H'
  | d => ∀ v, Dv K F' as' v d → Q v H'
def spO (K : PySem.W.Frag) (ct : Ct) (n : Nat) (f : List D → Rp) : Sp := fun vs H Q E => ∃ F ds, Ok K F H [] [] ∧ DvL K F [] vs ds ∧ ds.length = n ∧ out K ct (fun c d _ H => E c d H) 0 F H [] (up (f ds) []) (oO K H Q)
section
variable {P : Program} {w : World} {K : PySem.W.Frag} {mg : Str → Option Value} {base : Heap} {ct : Ct}
abbrev FnP (P : Program) (w : World) (K : PySem.W.Frag) (mg : Str → Option Value) (base : Heap) (k : Nat) (f : Addr) (fd : FuncData) (ps : List Str) (sp : Sp) : Prop := FnOk P w K mg base (L2.CX P w) k f fd ps sp
theorem spP_of_O {n : Nat} {f : List D → Rp} {vs : List V} {H : Hp} {Q : VK} {E : XK} (h : spP K ct n f vs H Q E) : spO K ct n f vs H Q E := by
  obtain ⟨F, ds, ok, hv, hl, h⟩ := h
  refine ⟨F, ds, ok, hv, hl, ?_⟩
  cases q : f ds with
  | no =>
    rw [q] at h
    exact h
  | ex x =>
    rw [q] at h
    exact h
  | ok d =>
    rw [q] at h
    intro F' H' as' g ok'
    have h2 := h
    cases d with
    | lst xs =>
      intro p ys hp fp hH hy
      have ea : as' = [] := List.eq_nil_of_length_eq_zero ok'.len
      subst ea
      have ok2 : Ok K (upd F' p (.lst ys)) H' [] [] := ⟨fun a u e => by
        by_cases q : a = p
        · rw [q, upd_same] at e
          cases e
          rw [q]
          exact hH
        · rw [upd_ne q] at e
          exact ok'.fh a u e, List.nodup_nil, rfl, fun i a xs z _ => by simp at z⟩
      have g2 : Gro F H [] (upd F' p (.lst ys)) H' [] := ⟨g.ff.trans (Ext.new fp), fun a ha => by
        rw [upd_ne fun e => ha (by rw [e]; exact hp)]
        exact g.fn a ha, g.hh, g.hl, g.ap, g.an⟩
      exact h2 _ _ [] g2 ok2 _ (.lst upd_same (hy.mono (Ext.new fp) List.prefix_rfl))
    | _ => exact fun v hv => h2 F' H' as' g ok' v hv
theorem FnOk.ofO {n k : Nat} {f : List D → Rp} {fa : Addr} {fd : FuncData} {ps : List Str} (h : FnP P w K mg base k fa fd ps (spO K ct n f)) : FnP P w K mg base k fa fd ps (spP K ct n f) := h.imp fun _ _ _ _ => spP_of_O
theorem ok_nil {K : PySem.W.Frag} {F H : Hp} {as : List Addr} {cs : Cs} (ok : Ok K F H as cs) : Ok K F H [] [] := ⟨ok.fh, List.nodup_nil, rfl, fun i a xs h _ => by simp at h⟩
abbrev FunG (K : PySem.W.Frag) (x : Str) (st : Stmt) (f : Addr) (fd : FuncData) : Prop := FunD K x x (defArgs st) (defBody st) (defScope st) [] [] f fd
/-- the context of a def's body -/
abbrev cxG (P : Program) (w : World) (K : PySem.W.Frag) (mg : Str → Option Value) (base : Heap) (N : List Str) (x : Str) (st : Stmt) (f : Addr) (cdv : Value) (A : Around) (outer : List Env) (s : Shared) (H : Hp) (E : XK) : Cx :=
  cxOf (L2.CX P w) P w K mg base N x (defScope st) f cdv A outer s H E
theorem start_of {N : List Str} {vs : List V} {ds : List D} {F : Hp} {as : List Addr} (h : DvL K F as vs ds) : Sl K F as (L2.start N vs) (startE N.length ds) := by
  unfold L2.start startE
  rw [h.length]
  exact Sl.start _ h
theorem def_P {x : Str} {st : Stmt} {f : Addr} {fd : FuncData} {N ps : List Str} {k n : Nat} {c : En → M Fl} (F : FunG K x st f fd) (S : FnScope N ps (defScope st)) (hn : ps.length = n)
    (body : ∀ (cdv : Value) (A : Around) (outer : List Env) (s : Shared) (H : Hp) (E : XK), Room k (A.deeper (envOfC x (defScope st) s.heap.objs.size f cdv)) → PSs (cxG P w K mg base N x st f cdv A outer s H E) (defBody st) (tS K ct (fun c d _ H => E c d H) c)) :
    FnP P w K mg base (k + 1) f fd ps (spP K ct n (runP c N.length)) := by
  refine F.ok S (fun vs H Q E h => ?_) (fun cdv A outer s H vs Q E hr h => ⟨_, body cdv A outer s H E hr, ?_⟩)
  · obtain ⟨_, _, _, hv, hl, _⟩ := h
    rw [hv.length, hl, hn]
  · obtain ⟨F', ds, ok, hv, hl, h⟩ := h
    refine ⟨F', [], startE N.length ds, [], ok, start_of hv, ?_⟩
    unfold runP at h
    cases q : c (startE N.length ds) [] with
    | no =>
      rw [q] at h
      exact h
    | ex e cs =>
      rw [q] at h
      intro c' d σ' F1 H1 as1 _ g ok1 hx
      have xr : XRel ct H1 e c' d := hx
      exact h c' d [] (frz F1 H1 as1) H1 [] rfl (gro_frz ok1 g) (ok_frz ok1) xr
    | ok fl cs =>
      rw [q] at h
      intro F1 H1 as1 g ok1
      cases fl with
      | nx e => exact fun σ' _ _ => h (frz F1 H1 as1) H1 [] (gro_frz ok1 g) (ok_frz ok1) _ .non
      | bk e => exact False.elim h
      | ct e => exact False.elim h
      | rt d =>
        intro v dv
        have h2 : out K ct (fun c d _ H => E c d H) 0 F' H [] (up (match res cs d with
          | some p => Rp.ok p
          | none => Rp.no) []) (oD K Q) := h
        cases q2 : res cs d with
        | none =>
          rw [q2] at h2
          exact False.elim h2
        | some p =>
          rw [q2] at h2
          exact h2 (frz F1 H1 as1) H1 [] (gro_frz ok1 g) (ok_frz ok1) v (res_dv ok1 dv q2)
theorem def_M {x : Str} {st : Stmt} {f : Addr} {fd : FuncData} {N ps : List Str} {k n : Nat} {c : En → M Fl} (F : FunG K x st f fd) (S : FnScope N ps (defScope st)) (hn : ps.length = n)
    (body : ∀ (cdv : Value) (A : Around) (outer : List Env) (s : Shared) (H : Hp) (E : XK), Room k (A.deeper (envOfC x (defScope st) s.heap.objs.size f cdv)) → PSs (cxG P w K mg base N x st f cdv A outer s H E) (defBody st) (tS K ct (fun c d _ H => E c d H) c)) :
    FnP P w K mg base (k + 1) f fd ps (spM K ct n (runM c N.length)) := by
  refine F.ok S (fun vs H Q E h => ?_) (fun cdv A outer s H vs Q E hr h => ⟨_, body cdv A outer s H E hr, ?_⟩)
  · obtain ⟨_, _, _, _, _, hv, hl, _⟩ := h
    rw [hv.length, hl, hn]
  · obtain ⟨F', as, ds, cs, ok, hv, hl, h⟩ := h
    refine ⟨F', as, startE N.length ds, cs, ok, start_of hv, ?_⟩
    have h2 : out K ct (fun c d _ H => E c d H) 0 F' H as (c (startE N.length ds) cs) _ := out_bnd h
    cases q : c (startE N.length ds) cs with
    | no =>
      rw [q] at h2
      exact h2
    | ex e cs2 =>
      rw [q] at h2
      exact fun c' d σ' F1 H1 as1 _ g ok1 hx => h2 c' d [] F1 H1 as1 rfl g ok1 hx
    | ok fl cs2 =>
      rw [q] at h2
      intro F1 H1 as1 g ok1
      have h3 := h2 F1 H1 as1 g ok1
      cases fl with
      | nx e => exact fun σ' _ _ => h3 F1 H1 as1 (Gro.refl _ _ _) ok1 _ .non
      | bk e => exact False.elim h3
      | ct e => exact False.elim h3
      | rt d => exact fun v dv => h3 F1 H1 as1 (Gro.refl _ _ _) ok1 v dv
def runO (c : En → M Fl) (k : Nat) (ds : List D) : Rp := match c (startE k ds) [] with
  | .ok (.rt (.ref i)) cs => (match cs[i]? with
    | some xs => if noRL xs = true then .ok (.lst xs) else .no
    | none => .no)
  | .ex x _ => .ex x
  | _ => .no
theorem def_O {x : Str} {st : Stmt} {f : Addr} {fd : FuncData} {N ps : List Str} {k n : Nat} {c : En → M Fl} (F : FunG K x st f fd) (S : FnScope N ps (defScope st)) (hn : ps.length = n)
    (body : ∀ (cdv : Value) (A : Around) (outer : List Env) (s : Shared) (H : Hp) (E : XK), Room k (A.deeper (envOfC x (defScope st) s.heap.objs.size f cdv)) → PSs (cxG P w K mg base N x st f cdv A outer s H E) (defBody st) (tS K ct (fun c d _ H => E c d H) c)) :
    FnP P w K mg base (k + 1) f fd ps (spO K ct n (runO c N.length)) := by
  refine F.ok S (fun vs H Q E h => ?_) (fun cdv A outer s H vs Q E hr h => ⟨_, body cdv A outer s H E hr, ?_⟩)
  · obtain ⟨_, _, _, hv, hl, _⟩ := h
    rw [hv.length, hl, hn]
  · obtain ⟨F', ds, ok, hv, hl, h⟩ := h
    refine ⟨F', [], startE N.length ds, [], ok, start_of hv, ?_⟩
    unfold runO at h
    cases q : c (startE N.length ds) [] with
    | no =>
      rw [q] at h
      exact h
    | ex e cs =>
      rw [q] at h
      intro c' d σ' F1 H1 as1 _ g ok1 hx
      exact h c' d [] (frz F1 H1 as1) H1 [] rfl (gro_frz ok1 g) (ok_frz ok1) hx
    | ok fl cs =>
      rw [q] at h
      cases fl with
      | nx e => exact False.elim h
      | bk e => exact False.elim h
      | ct e => exact False.elim h
      | rt d =>
        cases d with
        | ref i =>
          intro F1 H1 as1 g ok1 v dv
          have h2 : out K ct (fun c d _ H => E c d H) 0 F' H [] (up (match cs[i]? with
            | some xs => if noRL xs = true then Rp.ok (.lst xs) else Rp.no
            | none => Rp.no) []) (oO K H Q) := h
          cases q2 : cs[i]? with
          | none =>
            rw [q2] at h2
            exact False.elim h2
          | some xs =>
            rw [q2] at h2
            have h3 : out K ct (fun c d _ H => E c d H) 0 F' H [] (up (if noRL xs = true then Rp.ok (.lst xs) else Rp.no) []) (oO K H Q) := h2
            by_cases nr : noRL xs = true
            · rw [if_pos nr] at h3
              obtain ⟨a, ys, rfl, ha, hH, l⟩ := ref_at ok1 dv q2
              have m : a ∈ as1 := List.mem_of_getElem? ha
              have hn : H a = none := (g.an a m).elim (fun z => nomatch z) fun z => z
              have ok2 : Ok K F1 H1 [] [] := ok_nil ok1
              have g2 : Gro F' H [] F1 H1 [] := ⟨g.ff, g.fn, g.hh, g.hl, List.prefix_rfl, fun _ z => .inl z⟩
              exact h3 F1 H1 [] g2 ok2 a ys hn (ok1.old m).1 hH (l.noR nr)
            · rw [if_neg nr] at h3
              exact False.elim h3
        | _ => exact False.elim h
/-- a def that is never called -/
theorem fn_no {f : Addr} {fd : FuncData} {ps : List Str} {k n : Nat} (hn : ps.length = n) : FnP P w K mg base k f fd ps (spP K ct n fun _ => .no) := ⟨fun vs H Q E h => by
  obtain ⟨_, _, _, hv, hl, _⟩ := h
  rw [hv.length, hl, hn], fun _ _ _ _ _ _ _ _ _ _ _ _ _ h => by
  obtain ⟨_, _, _, _, _, h⟩ := h
  exact False.elim h⟩
/-- where a def stands, what it promises -/
def Dp' (P : Program) (w : World) (K : PySem.W.Frag) (mg : Str → Option Value) (base : Heap) (k : Nat) (x : Str) (ps : List Str) (sp : Sp) : Prop := ∃ fa fd, mg x = some (.ref fa) ∧ PySem.W.keepIn K (.ref fa) = true ∧ L2.Binds K fd ps [] ∧ FnP P w K mg base k fa fd ps sp
theorem Dp'.ofO {k n : Nat} {x : Str} {ps : List Str} {f : List D → Rp} (h : Dp' P w K mg base k x ps (spO K ct n f)) : Dp' P w K mg base k x ps (spP K ct n f) := by
  obtain ⟨fa, fd, a, b, c, d⟩ := h
  exact ⟨fa, fd, a, b, c, FnOk.ofO d⟩
end
/-! ### calls -/
def xCallM (f : List D → M D) (a : En → M (List D)) : En → M D := fun env => M.bnd (a env) f
def xCallP (f : List D → Rp) (a : En → M (List D)) : En → M D := fun env => M.bnd (a env) fun ds => if noRL ds = true then up (f ds) else M.no
def xCallO (f : List D → Rp) (a : En → M (List D)) : En → M D := fun env => M.bnd (a env) fun ds => if noRL ds = true then (match f ds with
  | .ok (.lst xs) => mkL true xs
  | r => up r) else M.no
section
variable {X : Cx} {ct : Ct} {W : WX} {k n : Nat} {fa : Addr} {fd : FuncData} {ps : List Str} {x : Str} {p pos : Pos} {e : Expr} {es : List Expr} {mas : En → M (List D)}
theorem gro_nil {K : PySem.W.Frag} {F H F' H' : Hp} {as : List Addr} {cs : Cs} (ok : Ok K F H as cs) (g : Gro F H [] F' H' []) (ok' : Ok K F' H' [] []) : Gro F H as F' H' as ∧ Ok K F' H' as cs := by
  refine ⟨⟨g.ff, g.fn, fun p o h _ => g.hh p o h (by simp), g.hl, List.prefix_rfl, fun _ m => .inl m⟩, ⟨ok'.fh, ok.nd, ok.len, fun i a xs ha hx => ?_⟩⟩
  obtain ⟨h1, ys, h2, h3⟩ := ok.cell i a xs ha hx
  exact ⟨by rw [g.fn a (by rw [h2]; exact fun z => nomatch z)]; exact h1, ys, g.hh a _ h2 (by simp), h3.mono g.ff List.prefix_rfl⟩
theorem ok_nil' {K : PySem.W.Frag} {F H : Hp} {as : List Addr} {cs : Cs} (ok : Ok K F H as cs) : Ok K F H [] [] := ⟨ok.fh, List.nodup_nil, rfl, fun i a xs h _ => by simp at h⟩
theorem ge_callM {f : List D → M D} (Fn : FnP X.prog X.w X.K X.mg X.base k fa fd ps (spM X.K ct n f)) (hr : Room k X.A) (tk : Takes X W) (hg : Gl X x) (hm : X.mg x = some (.ref fa)) (hk : PySem.W.keepIn X.K (.ref fa) = true) (hb : Binds X.K fd ps []) (hn : ∀ env cs ds cs', mas env cs = .ok ds cs' → ds.length = n)
    (ha : PA X (e :: es) (tA X.K ct W mas)) (hdb : (x == ("__debug__" : Str)) = false := by decide) (he : starEach (e :: es) X.env = (false, eval e X.env) :: starEach es X.env := by rfl) (hpl : (backTo pos (starEach es X.env)).any (·.1) = false := by rfl) :
    PE X (.Call (.Name x p) (e :: es) [] pos) (tD X.K ct W (xCallM f mas)) := PE.imp (pe_callS Fn hr hg hm hk hb (fun σ => passAt tk σ) ha hdb he hpl) (by
  rintro σ H Q ⟨F, as, env, cs, ok, sl, h⟩
  refine ⟨F, as, env, cs, ok, sl, ?_⟩
  have h2 := out_bnd h
  cases q : mas env cs with
  | no =>
    rw [q] at h2
    exact h2
  | ex y cs2 =>
    rw [q] at h2
    exact h2
  | ok ds cs2 =>
    rw [q] at h2
    intro F1 H1 as1 g1 ok1 vs hvs
    refine ⟨F1, as1, ds, cs2, ok1, hvs, hn env cs ds cs2 q, ?_⟩
    have h3 : out X.K ct W σ.length F1 H1 as1 (f ds cs2) (oD X.K Q) := h2 F1 H1 as1 g1 ok1
    cases q2 : f ds cs2 with
    | no =>
      rw [q2] at h3
      exact h3
    | ex y cs3 =>
      rw [q2] at h3
      exact fun c d σ' F2 H2 as2 _ g ok2 hx => h3 c d σ F2 H2 as2 rfl g ok2 hx
    | ok d cs3 =>
      rw [q2] at h3
      exact h3)
theorem callP_core {f : List D → Rp} {σ : L2.St} {H1 F1 : Hp} {as1 : List Addr} {cs1 : Cs} {vs : List V} {ds : List D} {Q : VK} (hlen : ds.length = n) (ok1 : Ok X.K F1 H1 as1 cs1) (hvs : DvL X.K F1 as1 vs ds) (nr : noRL ds = true)
    (h : out X.K ct W σ.length F1 H1 as1 (up (f ds) cs1) (oD X.K Q)) : spP X.K ct n f vs H1 Q (WE W σ) := by
  refine ⟨F1, ds, ok_nil ok1, hvs.noR nr, hlen, ?_⟩
  cases q : f ds with
  | no =>
    rw [q] at h
    exact h
  | ex y =>
    rw [q] at h
    intro c d σ' F2 H2 as2 _ g ok2 hx
    have ea : as2 = [] := List.eq_nil_of_length_eq_zero ok2.len
    subst ea
    obtain ⟨g3, ok3⟩ := gro_nil ok1 g ok2
    exact h c d σ F2 H2 as1 rfl g3 ok3 hx
  | ok d =>
    rw [q] at h
    intro F2 H2 as2 g ok2 v dv
    have ea : as2 = [] := List.eq_nil_of_length_eq_zero ok2.len
    subst ea
    obtain ⟨g3, ok3⟩ := gro_nil ok1 g ok2
    exact h F2 H2 as1 g3 ok3 v (dv.mono (Ext.refl _) (List.nil_prefix))
theorem ge_callP {f : List D → Rp} (Fn : FnP X.prog X.w X.K X.mg X.base k fa fd ps (spP X.K ct n f)) (hr : Room k X.A) (tk : Takes X W) (hg : Gl X x) (hm : X.mg x = some (.ref fa)) (hk : PySem.W.keepIn X.K (.ref fa) = true) (hb : Binds X.K fd ps []) (hn : ∀ env cs ds cs', mas env cs = .ok ds cs' → ds.length = n)
    (ha : PA X (e :: es) (tA X.K ct W mas)) (hdb : (x == ("__debug__" : Str)) = false := by decide) (he : starEach (e :: es) X.env = (false, eval e X.env) :: starEach es X.env := by rfl) (hpl : (backTo pos (starEach es X.env)).any (·.1) = false := by rfl) :
    PE X (.Call (.Name x p) (e :: es) [] pos) (tD X.K ct W (xCallP f mas)) := PE.imp (pe_callS Fn hr hg hm hk hb (fun σ => passAt tk σ) ha hdb he hpl) (by
  rintro σ H Q ⟨F, as, env, cs, ok, sl, h⟩
  refine ⟨F, as, env, cs, ok, sl, ?_⟩
  have h2 := out_bnd h
  cases q : mas env cs with
  | no =>
    rw [q] at h2
    exact h2
  | ex y cs2 =>
    rw [q] at h2
    exact h2
  | ok ds cs2 =>
    rw [q] at h2
    intro F1 H1 as1 g1 ok1 vs hvs
    have h3 : out X.K ct W σ.length F1 H1 as1 ((if noRL ds = true then up (f ds) else M.no) cs2) (oD X.K Q) := h2 F1 H1 as1 g1 ok1
    split at h3
    · rename_i nr
      exact callP_core (hn env cs ds cs2 q) ok1 hvs nr h3
    · exact False.elim h3)
theorem ge_callO {f : List D → Rp} (Fn : FnP X.prog X.w X.K X.mg X.base k fa fd ps (spO X.K ct n f)) (hr : Room k X.A) (tk : Takes X W) (hg : Gl X x) (hm : X.mg x = some (.ref fa)) (hk : PySem.W.keepIn X.K (.ref fa) = true) (hb : Binds X.K fd ps []) (hn : ∀ env cs ds cs', mas env cs = .ok ds cs' → ds.length = n)
    (ha : PA X (e :: es) (tA X.K ct W mas)) (hdb : (x == ("__debug__" : Str)) = false := by decide) (he : starEach (e :: es) X.env = (false, eval e X.env) :: starEach es X.env := by rfl) (hpl : (backTo pos (starEach es X.env)).any (·.1) = false := by rfl) :
    PE X (.Call (.Name x p) (e :: es) [] pos) (tD X.K ct W (xCallO f mas)) := PE.imp (pe_callS Fn hr hg hm hk hb (fun σ => passAt tk σ) ha hdb he hpl) (by
  rintro σ H Q ⟨F, as, env, cs, ok, sl, h⟩
  refine ⟨F, as, env, cs, ok, sl, ?_⟩
  have h2 := out_bnd h
  cases q : mas env cs with
  | no =>
    rw [q] at h2
    exact h2
  | ex y cs2 =>
    rw [q] at h2
    exact h2
  | ok ds cs2 =>
    rw [q] at h2
    intro F1 H1 as1 g1 ok1 vs hvs
    have h3 : out X.K ct W σ.length F1 H1 as1 ((if noRL ds = true then (match f ds with
      | .ok (.lst xs) => mkL true xs
      | r => up r) else M.no) cs2) (oD X.K Q) := h2 F1 H1 as1 g1 ok1
    split at h3
    · rename_i nr
      cases q2 : f ds with
      | ok d =>
        cases d with
        | lst xs =>
          rw [q2] at h3
          refine ⟨F1, ds, ok_nil ok1, hvs.noR nr, hn env cs ds cs2 q, ?_⟩
          rw [q2]
          intro F2 H2 as2 g ok2 p ys hp fp hH hy
          have ea : as2 = [] := List.eq_nil_of_length_eq_zero ok2.len
          subst ea
          obtain ⟨g3, ok3⟩ := gro_nil ok1 g ok2
          have np : p ∉ as1 := ok1.out hp
          have g4 : Gro F1 H1 as1 F2 H2 (as1 ++ [p]) := ⟨g3.ff, g3.fn, g3.hh, g3.hl, List.prefix_append _ _, fun a m => (List.mem_append.mp m).elim .inl fun z => .inr (by rw [List.mem_singleton.mp z]; exact hp)⟩
          have ok4 : Ok X.K F2 H2 (as1 ++ [p]) (cs2 ++ [xs]) := by
            refine ⟨ok3.fh, List.nodup_append.mpr ⟨ok3.nd, List.nodup_cons.mpr ⟨List.not_mem_nil, List.nodup_nil⟩, fun a ha b hb e => np (by rw [← List.mem_singleton.mp hb, ← e]; exact ha)⟩, by rw [List.length_append, List.length_append, ok3.len]; rfl, fun i a zs ha hz => ?_⟩
            by_cases hi : i < as1.length
            · rw [List.getElem?_append_left hi] at ha
              rw [List.getElem?_append_left (by rw [← ok3.len]; exact hi)] at hz
              obtain ⟨w1, ws, w2, w3⟩ := ok3.cell i a zs ha hz
              exact ⟨w1, ws, w2, w3.mono (Ext.refl _) (List.prefix_append _ _)⟩
            · rw [List.getElem?_append_right (Nat.le_of_not_lt hi)] at ha
              rw [List.getElem?_append_right (by rw [← ok3.len]; exact Nat.le_of_not_lt hi), ← ok3.len] at hz
              have e0 : i - as1.length = 0 := by
                cases q : i - as1.length with
                | zero => rfl
                | succ n =>
                  rw [q] at ha
                  simp at ha
              rw [e0] at ha hz
              have ea : p = a := by simpa using ha
              have ez : xs = zs := by simpa using hz
              subst ea ez
              exact ⟨fp, ys, hH, hy.mono (Ext.refl _) List.nil_prefix⟩
          refine h3 F2 H2 (as1 ++ [p]) g4 ok4 _ (.ref ?_)
          rw [List.getElem?_append_right (by rw [ok1.len]; exact Nat.le_refl _), ok1.len, Nat.sub_self]
          rfl
        | _ =>
          rw [q2] at h3
          exact spP_of_O (callP_core (hn env cs ds cs2 q) ok1 hvs nr (by rw [q2]; exact h3))
      | ex y =>
        rw [q2] at h3
        exact spP_of_O (callP_core (hn env cs ds cs2 q) ok1 hvs nr (by rw [q2]; exact h3))
      | no =>
        rw [q2] at h3
        exact False.elim h3
    · exact False.elim h3)
theorem gc_P {f : List D → Rp} {j : Nat} (Fn : Dp' X.prog X.w X.K X.mg X.base j x ps (spP X.K ct n f)) (hr : Room k X.A) (hj : j ≤ k) (tk : Takes X W) (hg : Gl X x) (hn : ∀ env cs ds cs', mas env cs = .ok ds cs' → ds.length = n)
    (ha : PA X (e :: es) (tA X.K ct W mas)) (hdb : (x == ("__debug__" : Str)) = false := by decide) (he : starEach (e :: es) X.env = (false, eval e X.env) :: starEach es X.env := by rfl) (hpl : (backTo pos (starEach es X.env)).any (·.1) = false := by rfl) :
    PE X (.Call (.Name x p) (e :: es) [] pos) (tD X.K ct W (xCallP f mas)) := by
  obtain ⟨fa, fd, hm, hk, hb, Fn⟩ := Fn
  exact ge_callP Fn (hr.mono hj) tk hg hm hk hb hn ha hdb he hpl
theorem gc_O {f : List D → Rp} {j : Nat} (Fn : Dp' X.prog X.w X.K X.mg X.base j x ps (spO X.K ct n f)) (hr : Room k X.A) (hj : j ≤ k) (tk : Takes X W) (hg : Gl X x) (hn : ∀ env cs ds cs', mas env cs = .ok ds cs' → ds.length = n)
    (ha : PA X (e :: es) (tA X.K ct W mas)) (hdb : (x == ("__debug__" : Str)) = false := by decide) (he : starEach (e :: es) X.env = (false, eval e X.env) :: starEach es X.env := by rfl) (hpl : (backTo pos (starEach es X.env)).any (·.1) = false := by rfl) :
    PE X (.Call (.Name x p) (e :: es) [] pos) (tD X.K ct W (xCallO f mas)) := by
  obtain ⟨fa, fd, hm, hk, hb, Fn⟩ := Fn
  exact ge_callO Fn (hr.mono hj) tk hg hm hk hb hn ha hdb he hpl
theorem gc_M {f : List D → M D} {j : Nat} (Fn : Dp' X.prog X.w X.K X.mg X.base j x ps (spM X.K ct n f)) (hr : Room k X.A) (hj : j ≤ k) (tk : Takes X W) (hg : Gl X x) (hn : ∀ env cs ds cs', mas env cs = .ok ds cs' → ds.length = n)
    (ha : PA X (e :: es) (tA X.K ct W mas)) (hdb : (x == ("__debug__" : Str)) = false := by decide) (he : starEach (e :: es) X.env = (false, eval e X.env) :: starEach es X.env := by rfl) (hpl : (backTo pos (starEach es X.env)).any (·.1) = false := by rfl) :
    PE X (.Call (.Name x p) (e :: es) [] pos) (tD X.K ct W (xCallM f mas)) := by
  obtain ⟨fa, fd, hm, hk, hb, Fn⟩ := Fn
  exact ge_callM Fn (hr.mono hj) tk hg hm hk hb hn ha hdb he hpl
/-- a module's constants -/
theorem ge_gint {i : Int} {x : Str} (hm : ∃ t, X.mg x = some (.int i t)) (hg : Gl X x) (hd : (x == ("__debug__" : Str)) = false := by decide) : PE X (.Name x p) (tD X.K ct W (xC (.int i))) := by
  obtain ⟨t, hm⟩ := hm
  exact ge_c (pe_glob (v := .int i) hg hm ⟨t, rfl⟩ hd) fun _ _ => .int i
theorem ge_gstr {i : Str} {x : Str} (hm : ∃ t, X.mg x = some (.str i t)) (hg : Gl X x) (hd : (x == ("__debug__" : Str)) = false := by decide) : PE X (.Name x p) (tD X.K ct W (xC (.str i))) := by
  obtain ⟨t, hm⟩ := hm
  exact ge_c (pe_glob (v := .str i) hg hm ⟨t, rfl⟩ hd) fun _ _ => .str i
/-- how many arguments -/
theorem an_nil : ∀ env cs ds cs', aNil env cs = .ok ds cs' → ds.length = 0 := fun _ _ _ _ h => by
  cases h
  rfl
theorem an_cons {m : En → M D} {ms : En → M (List D)} {n : Nat} (h : ∀ env cs ds cs', ms env cs = .ok ds cs' → ds.length = n) : ∀ env cs ds cs', aCons m ms env cs = .ok ds cs' → ds.length = n + 1 := fun env cs ds cs' e => by
  unfold aCons M.bnd at e
  cases q : m env cs with
  | ok d cs1 =>
    rw [q] at e
    dsimp only at e
    cases q2 : ms env cs1 with
    | ok es cs2 =>
      rw [q2] at e
      cases e
      exact congrArg (· + 1) (h env cs1 es _ q2)
    | ex y cs2 =>
      rw [q2] at e
      cases e
    | no =>
      rw [q2] at e
      cases e
  | ex y cs2 =>
    rw [q] at e
    cases e
  | no =>
    rw [q] at e
    cases e
end
/-! ### refusals -/
def sRaise (x : Exn) : En → M Fl := fun _ => M.thr x
inductive X4 where
  | lines | thing | kind | nonet
def X4.e : X4 → Exn
  | .lines => .lines
  | .thing => .thing
  | .kind => .kind
  | .nonet => .nonet
def Ct.at4 (ct : Ct) : X4 → Addr
  | .lines => ct.lines
  | .thing => ct.thing
  | .kind => ct.kind
  | .nonet => ct.nonet
theorem xrel4 {ct : Ct} {H : Hp} (y : X4) : XRel ct H y.e (.ref (ct.at4 y)) none := by cases y <;> exact ⟨rfl, rfl⟩
theorem gs_raise4 {X : Cx} {ct : Ct} {W : WX} (y : X4) {x m : Str} {j : Nat} {p p2 p3 pos : Pos} (hc : X.calm = true) (tk : Takes X W) (q : PySem.W.excIn X.K (ct.at4 y) He.veBase "ValueError.__new__" = true) (gC : X.mg x = some (.ref (ct.at4 y))) (kC : PySem.W.keepIn X.K (.ref (ct.at4 y)) = true) (r : Raises X (.ref (ct.at4 y))) (hg : Gl X x)
    (hdb : (x == ("__debug__" : Str)) = false := by decide) : PS X (.Raise (some (.Call (.Name x p) [.Constant (.str m) j p2] [] p3)) none pos) (tS X.K ct W (sRaise y.e)) := PS.imp (ps_raise hc tk (pmk_own PySem.F.excBase_ValueError q gC kC r hg hdb)) (by
  rintro D σ H ⟨F, as, env, cs, ok, sl, h⟩
  exact h (.ref (ct.at4 y)) none σ F H as rfl (Gro.refl _ _ _) ok (xrel4 y))
end G
/-! G6: defs that give a list of own new lists. -/
namespace G
open L2 PySem PySem.Spec PyProof.Rows
inductive Rp2 where
  | ok (L : List (List D)) | ex (x : Exn) | no
def up2 : Rp2 → M (List (List D))
  | .ok L => fun _ => .ok L L
  | .ex x => M.thr x
  | .no => M.no
def asP (f : List D → Rp2) (ds : List D) : Rp := match f ds with
  | .ok L => if L.all noRL = true then .ok (.lst (L.map .lst)) else .no
  | .ex x => .ex x
  | .no => .no
/-- the cells that a list names -/
def refsOf : List D → Option (List Nat)
  | [] => some []
  | .ref i :: r => (refsOf r).map (i :: ·)
  | _ :: _ => none
def getAll (cs : Cs) : List Nat → Option (List (List D))
  | [] => some []
  | i :: r => match cs[i]?, getAll cs r with
    | some xs, some ys => if noRL xs = true then some (xs :: ys) else none
    | _, _ => none
def nodupB : List Nat → Bool
  | [] => true
  | i :: r => !r.contains i && nodupB r
def own2 (cs : Cs) (skip : List Nat) (xs : List D) : Rp2 := match refsOf xs with
  | some is => if (nodupB (skip ++ is)) = true then (match getAll cs is with
    | some L => .ok L
    | none => .no) else .no
  | none => .no
def runO2 (c : En → M Fl) (k : Nat) (ds : List D) : Rp2 := match c (startE k ds) [] with
  | .ok (.rt (.lst xs)) cs => own2 cs [] xs
  | .ok (.rt (.ref i)) cs => (match cs[i]? with
    | some xs => own2 cs [i] xs
    | none => .no)
  | .ex x _ => .ex x
  | _ => .no
def oO2 (Q : VK) : List (List D) → Cs → Hp → Hp → List Addr → Prop := fun _ _ F' H' as' => ∀ a, F' a = some (.lst (as'.map V.ref)) → Q (.ref a) H'
def spO2 (K : PySem.W.Frag) (ct : Ct) (n : Nat) (f : List D → Rp2) : Sp := fun vs H Q E => ∃ F ds, Ok K F H [] [] ∧ DvL K F [] vs ds ∧ ds.length = n ∧ out K ct (fun c d _ H => E c d H) 0 F H [] (up2 (f ds) []) (oO2 Q)
section
variable {P : Program} {w : World} {K : PySem.W.Frag} {mg : Str → Option Value} {base : Heap} {ct : Ct} {F H : Hp} {as : List Addr} {cs : Cs}
theorem nodupB_ok : ∀ {is : List Nat}, nodupB is = true → is.Nodup
  | [], _ => List.nodup_nil
  | i :: r, h => by
    obtain ⟨h1, h2⟩ := Bool.and_eq_true_iff.mp (show (!r.contains i && nodupB r) = true from h)
    exact List.nodup_cons.mpr ⟨fun m => by simp [m] at h1, nodupB_ok h2⟩
theorem refsOf_map : ∀ {xs : List D} {is : List Nat}, refsOf xs = some is → xs = is.map D.ref
  | [], is, e => by
    cases e
    rfl
  | .ref i :: r, is, e => by
    have e2 : (refsOf r).map (i :: ·) = some is := e
    cases q : refsOf r with
    | none =>
      rw [q] at e2
      cases e2
    | some s =>
      rw [q] at e2
      cases e2
      rw [refsOf_map q]
      rfl
  | .non :: _, _, e | .bl _ :: _, _, e | .int _ :: _, _, e | .str _ :: _, _, e | .lst _ :: _, _, e | .tup _ :: _, _, e | .dic :: _, _, e | .scr _ :: _, _, e => by cases e
/-- the places of cells -/
theorem places (ok : Ok K F H as cs) : ∀ {is : List Nat} {L : List (List D)} {vs : List V}, DvL K F as vs (is.map D.ref) → getAll cs is = some L →
    ∃ ps : List Addr, vs = ps.map V.ref ∧ ps.length = is.length ∧ L.length = is.length ∧ (∀ (j : Nat) (p : Addr), ps[j]? = some p → ∃ i : Nat, is[j]? = some i ∧ as[i]? = some p) ∧
      ∀ (j : Nat) (p : Addr) (xs : List D), ps[j]? = some p → L[j]? = some xs → ∃ i : Nat, is[j]? = some i ∧ as[i]? = some p ∧ cs[i]? = some xs ∧ noRL xs = true
  | [], L, _, h, e => by
    cases e
    cases h
    exact ⟨[], rfl, rfl, rfl, fun _ _ z => by simp at z, fun _ _ _ z => by simp at z⟩
  | i :: r, L, _, h, e => by
    have e2 : (match cs[i]?, getAll cs r with
      | some xs, some ys => if noRL xs = true then some (xs :: ys) else none
      | _, _ => none) = some L := e
    split at e2
    · rename_i xs ys e3 e4
      split at e2
      · rename_i nr
        cases e2
        cases h with
        | cons h1 h2 =>
          cases h1 with
          | ref ha =>
            obtain ⟨ps, rfl, l1, l2, h3, h4⟩ := places ok h2 e4
            refine ⟨_ :: ps, rfl, congrArg (· + 1) l1, congrArg (· + 1) l2, fun j p hp => ?_, fun j p zs hp hz => ?_⟩
            · cases j with
              | zero =>
                simp at hp
                subst hp
                exact ⟨i, rfl, ha⟩
              | succ j => exact h3 j p (by simpa using hp)
            · cases j with
              | zero =>
                simp at hp hz
                subst hp hz
                exact ⟨i, rfl, ha, e3, nr⟩
              | succ j => exact h4 j p zs (by simpa using hp) (by simpa using hz)
      · cases e2
    · cases e2
theorem keep_ok {F0 H0 : Hp} {is : List Nat} {L : List (List D)} {vs : List V} (ok : Ok K F H as cs) (g : Gro F0 H0 [] F H as) (hv : DvL K F as vs (is.map D.ref)) (hn : is.Nodup) (e : getAll cs is = some L) :
    ∃ ps : List Addr, vs = ps.map V.ref ∧ Gro F0 H0 [] F H ps ∧ Ok K F H ps L ∧ ∀ p ∈ ps, ∃ i ∈ is, as[i]? = some p := by
  obtain ⟨ps, e1, l1, l2, h3, h4⟩ := places ok hv e
  have mem : ∀ p ∈ ps, ∃ i ∈ is, as[i]? = some p := fun p hp => by
    obtain ⟨j, hj⟩ := List.mem_iff_getElem?.mp hp
    obtain ⟨i, hi, ha⟩ := h3 j p hj
    exact ⟨i, List.mem_of_getElem? hi, ha⟩
  refine ⟨ps, e1, ⟨g.ff, g.fn, g.hh, g.hl, List.nil_prefix, fun p hp => ?_⟩, ⟨ok.fh, ?_, by rw [l1, l2], fun j p xs hp hx => ?_⟩, mem⟩
  · obtain ⟨i, _, ha⟩ := mem p hp
    exact g.an p (List.mem_of_getElem? ha)
  · refine List.pairwise_iff_getElem.mpr fun a b ha hb hab => fun q => ?_
    obtain ⟨i, hi, ha1⟩ := h3 a _ (List.getElem?_eq_getElem ha)
    obtain ⟨j, hj, ha2⟩ := h3 b _ (List.getElem?_eq_getElem hb)
    have eij : i = j := by
      obtain ⟨z1, y1⟩ := List.getElem?_eq_some_iff.mp ha1
      obtain ⟨z2, y2⟩ := List.getElem?_eq_some_iff.mp ha2
      exact (List.getElem_inj ok.nd).mp (y1.trans (q.trans y2.symm))
    subst eij
    obtain ⟨z1, y1⟩ := List.getElem?_eq_some_iff.mp hi
    obtain ⟨z2, y2⟩ := List.getElem?_eq_some_iff.mp hj
    exact Nat.ne_of_lt hab ((List.getElem_inj hn).mp (y1.trans y2.symm))
  · obtain ⟨i, _, ha, hc, nr⟩ := h4 j p xs hp hx
    obtain ⟨w1, ys, w2, w3⟩ := ok.cell i p xs ha hc
    exact ⟨w1, ys, w2, (w3.noR nr).mono (Ext.refl _) List.nil_prefix⟩
theorem def_O2 {x : Str} {st : Stmt} {f : Addr} {fd : FuncData} {N ps : List Str} {k n : Nat} {c : En → M Fl} (F : FunG K x st f fd) (S : FnScope N ps (defScope st)) (hn : ps.length = n)
    (body : ∀ (cdv : Value) (A : Around) (outer : List Env) (s : Shared) (H : Hp) (E : XK), Room k (A.deeper (envOfC x (defScope st) s.heap.objs.size f cdv)) → PSs (cxG P w K mg base N x st f cdv A outer s H E) (defBody st) (tS K ct (fun c d _ H => E c d H) c)) :
    FnP P w K mg base (k + 1) f fd ps (spO2 K ct n (runO2 c N.length)) := by
  refine F.ok S (fun vs H Q E h => ?_) (fun cdv A outer s H vs Q E hr h => ⟨_, body cdv A outer s H E hr, ?_⟩)
  · obtain ⟨_, _, _, hv, hl, _⟩ := h
    rw [hv.length, hl, hn]
  · obtain ⟨F', ds, ok, hv, hl, h⟩ := h
    refine ⟨F', [], startE N.length ds, [], ok, start_of hv, ?_⟩
    unfold runO2 at h
    cases q : c (startE N.length ds) [] with
    | no =>
      rw [q] at h
      exact h
    | ex e cs =>
      rw [q] at h
      intro c' d σ' F1 H1 as1 _ g ok1 hx
      exact h c' d [] (frz F1 H1 as1) H1 [] rfl (gro_frz ok1 g) (ok_frz ok1) hx
    | ok fl cs =>
      rw [q] at h
      cases fl with
      | nx e => exact False.elim h
      | bk e => exact False.elim h
      | ct e => exact False.elim h
      | rt d =>
        intro F1 H1 as1 g ok1 v dv
        cases d with
        | lst xs =>
          have h2 : out K ct (fun c d _ H => E c d H) 0 F' H [] (up2 (own2 cs [] xs) []) (oO2 Q) := h
          unfold own2 at h2
          split at h2
          · rename_i is e1
            split at h2
            · rename_i nd
              split at h2
              · rename_i L e2
                cases dv with
                | lst hf hl =>
                  rw [refsOf_map e1] at hl
                  obtain ⟨ps2, rfl, g2, ok2, _⟩ := keep_ok ok1 g hl (nodupB_ok nd) e2
                  exact h2 F1 H1 ps2 g2 ok2 _ hf
              · exact False.elim h2
            · exact False.elim h2
          · exact False.elim h2
        | ref i =>
          have h2 : out K ct (fun c d _ H => E c d H) 0 F' H [] (up2 (match cs[i]? with
            | some xs => own2 cs [i] xs
            | none => .no) []) (oO2 Q) := h
          cases hc : cs[i]? with
          | none =>
            rw [hc] at h2
            exact False.elim h2
          | some xs =>
            rw [hc] at h2
            have h2 : out K ct (fun c d _ H => E c d H) 0 F' H [] (up2 (own2 cs [i] xs) []) (oO2 Q) := h2
            unfold own2 at h2
            split at h2
            · rename_i is e1
              split at h2
              · rename_i nd
                split at h2
                · rename_i L e2
                  cases dv with
                  | ref ha =>
                    rename_i a
                    obtain ⟨fn, ys, hH, hl⟩ := ok1.cell i _ xs ha hc
                    rw [refsOf_map e1] at hl
                    obtain ⟨hni, hnd⟩ := List.nodup_cons.mp (nodupB_ok nd)
                    obtain ⟨ps2, rfl, g2, ok2, hm⟩ := keep_ok ok1 g hl hnd e2
                    have nm : a ∉ ps2 := fun m => by
                      obtain ⟨j, hj, hb⟩ := hm a m
                      obtain ⟨z1, y1⟩ := List.getElem?_eq_some_iff.mp ha
                      obtain ⟨z2, y2⟩ := List.getElem?_eq_some_iff.mp hb
                      exact hni (by rw [(List.getElem_inj ok1.nd).mp (y1.trans y2.symm)]; exact hj)
                    have g3 : Gro F' H [] (upd F1 a (.lst (ps2.map V.ref))) H1 ps2 := ⟨g2.ff.trans (Ext.new fn), fun p hp => by
                      rw [upd_ne fun e => (g.an a (List.mem_of_getElem? ha)).elim (fun z => nomatch z) fun z => hp (by rw [e]; exact z)]
                      exact g2.fn p hp, g2.hh, g2.hl, g2.ap, g2.an⟩
                    have ok3 : Ok K (upd F1 a (.lst (ps2.map V.ref))) H1 ps2 L := ⟨fun b o e => by
                      by_cases q : b = a
                      · rw [q, upd_same] at e
                        cases e
                        rw [q]
                        exact hH
                      · rw [upd_ne q] at e
                        exact ok2.fh b o e, ok2.nd, ok2.len, fun j p zs hp hz => by
                        obtain ⟨w1, ws, w2, w3⟩ := ok2.cell j p zs hp hz
                        exact ⟨by rw [upd_ne fun e => nm (by rw [← e]; exact List.mem_of_getElem? hp)]; exact w1, ws, w2, w3.mono (Ext.new fn) List.prefix_rfl⟩⟩
                    exact h2 _ H1 ps2 g3 ok3 a upd_same
                · exact False.elim h2
              · exact False.elim h2
            · exact False.elim h2
        | _ => exact False.elim h
theorem up_lsts {as : List Addr} {L : List (List D)} (ok : Ok K F H as L) (hn : ∀ xs ∈ L, noRL xs = true) : DvL K (frz F H as) [] (as.map V.ref) (L.map D.lst) := by
  have gen : ∀ (ps : List Addr) (M : List (List D)), ps.length = M.length → (∀ (j : Nat) (p : Addr) (xs : List D), ps[j]? = some p → M[j]? = some xs → p ∈ as ∧ noRL xs = true ∧ ∃ ys, H p = some (.lst ys) ∧ DvL K F as ys xs) → DvL K (frz F H as) [] (ps.map V.ref) (M.map D.lst) := fun ps => by
    induction ps with
    | nil =>
      intro M e _
      cases M with
      | nil => exact .nil
      | cons _ _ => cases e
    | cons p r ih =>
      intro M e h
      cases M with
      | nil => cases e
      | cons xs M =>
        obtain ⟨h1, h2, ys, h3, h4⟩ := h 0 p xs rfl rfl
        refine .cons (.lst (by rw [frz_in h1]; exact h3) ((h4.noR h2).mono (ext_frz ok) List.prefix_rfl)) (ih M (by simpa using e) fun j q zs hq hz => h (j + 1) q zs (by simpa using hq) (by simpa using hz))
  refine gen as L ok.len fun j p xs hp hx => ?_
  obtain ⟨_, ys, w2, w3⟩ := ok.cell j p xs hp hx
  exact ⟨List.mem_of_getElem? hp, hn xs (List.mem_of_getElem? hx), ys, w2, w3⟩
theorem spP_of_O2 {n : Nat} {f : List D → Rp2} {vs : List V} {H : Hp} {Q : VK} {E : XK} (h : spP K ct n (asP f) vs H Q E) : spO2 K ct n f vs H Q E := by
  obtain ⟨F, ds, ok, hv, hl, h⟩ := h
  refine ⟨F, ds, ok, hv, hl, ?_⟩
  unfold asP at h
  cases q : f ds with
  | no =>
    rw [q] at h
    exact h
  | ex x =>
    rw [q] at h
    exact fun c d σ' F1 H1 as1 l g ok1 hx => by
      exact h c d σ' (frz F1 H1 as1) H1 [] l (gro_frz ok1 g) (ok_frz ok1) hx
  | ok L =>
    rw [q] at h
    intro F1 H1 as1 g ok1 a ha
    have h2 : out K ct (fun c d _ H => E c d H) 0 F H [] (up (if L.all noRL = true then Rp.ok (.lst (L.map .lst)) else .no) []) (oD K Q) := h
    by_cases nr : L.all noRL = true
    · rw [if_pos nr] at h2
      exact h2 (frz F1 H1 as1) H1 [] (gro_frz ok1 g) (ok_frz ok1) _ (.lst (ext_frz ok1 _ _ ha) (up_lsts ok1 (List.all_eq_true.mp nr)))
    · rw [if_neg nr] at h2
      exact False.elim h2
theorem Dp'.ofO2 {k n : Nat} {x : Str} {ps : List Str} {f : List D → Rp2} (h : Dp' P w K mg base k x ps (spO2 K ct n f)) : Dp' P w K mg base k x ps (spP K ct n (asP f)) := by
  obtain ⟨fa, fd, a, b, c, d⟩ := h
  exact ⟨fa, fd, a, b, c, d.imp fun _ _ _ _ => spP_of_O2⟩
end
/-- the new cells' names -/
def refsN (n m : Nat) : List D := (List.range m).map fun j => .ref (n + j)
def xCallO2 (f : List D → Rp2) (a : En → M (List D)) : En → M D := fun env => M.bnd (a env) fun ds cs => if noRL ds = true then (match f ds with
  | .ok L => if L.all noRL = true then .ok (.lst (refsN cs.length L.length)) (cs ++ L) else .no
  | .ex x => .ex x cs
  | .no => .no) else .no
section
variable {X : Cx} {ct : Ct} {W : WX} {k n : Nat} {fa : Addr} {fd : FuncData} {ps : List Str} {x : Str} {p pos : Pos} {e : Expr} {es : List Expr} {mas : En → M (List D)}
theorem refsN_dv {K : PySem.W.Frag} {F : Hp} {as : List Addr} {n : Nat} : ∀ (qs : List Addr), (∀ (j : Nat) (p : Addr), qs[j]? = some p → as[n + j]? = some p) → DvL K F as (qs.map V.ref) (refsN n qs.length) := fun qs h => by
  have gen : ∀ (rs : List Addr) (m : Nat), (∀ (j : Nat) (p : Addr), rs[j]? = some p → as[n + (m + j)]? = some p) → DvL K F as (rs.map V.ref) ((List.range' m rs.length).map fun j => D.ref (n + j)) := fun rs => by
    induction rs with
    | nil => exact fun m _ => .nil
    | cons r rs ih => exact fun m h => .cons (.ref (h 0 r rfl)) (ih (m + 1) fun j p hp => by
        have := h (j + 1) p (by simpa using hp)
        rw [← this]
        congr 1
        omega)
  unfold refsN
  rw [List.range_eq_range']
  exact gen qs 0 fun j p hp => by rw [Nat.zero_add]; exact h j p hp
theorem ok_join {K : PySem.W.Frag} {F H F' H' : Hp} {as ps : List Addr} {cs L : Cs} (ok : Ok K F H as cs) (g : Gro F H [] F' H' ps) (ok' : Ok K F' H' ps L) (hn : ∀ xs ∈ L, noRL xs = true) : Gro F H as F' H' (as ++ ps) ∧ Ok K F' H' (as ++ ps) (cs ++ L) := by
  have new : ∀ p ∈ ps, H p = none := fun p hp => (g.an p hp).elim (fun z => nomatch z) id
  refine ⟨⟨g.ff, g.fn, fun p o h _ => g.hh p o h (by simp), g.hl, List.prefix_append _ _, fun p m => (List.mem_append.mp m).elim .inl fun z => .inr (new p z)⟩, ⟨ok'.fh, ?_, by rw [List.length_append, List.length_append, ok.len, ok'.len], fun i a xs ha hx => ?_⟩⟩
  · exact List.nodup_append.mpr ⟨ok.nd, ok'.nd, fun a ha b hb e => ok.out (new b hb) (by rw [← e]; exact ha)⟩
  · by_cases hi : i < as.length
    · rw [List.getElem?_append_left hi] at ha
      rw [List.getElem?_append_left (by rw [← ok.len]; exact hi)] at hx
      obtain ⟨h1, ys, h2, h3⟩ := ok.cell i a xs ha hx
      exact ⟨by rw [g.fn a (by rw [h2]; exact fun z => nomatch z)]; exact h1, ys, g.hh a _ h2 (by simp), h3.mono g.ff (List.prefix_append _ _)⟩
    · rw [List.getElem?_append_right (Nat.le_of_not_lt hi)] at ha
      rw [List.getElem?_append_right (by rw [← ok.len]; exact Nat.le_of_not_lt hi), ← ok.len] at hx
      obtain ⟨h1, ys, h2, h3⟩ := ok'.cell _ a xs ha hx
      exact ⟨h1, ys, h2, (h3.noR (hn xs (List.mem_of_getElem? hx))).mono (Ext.refl _) List.nil_prefix⟩
theorem gc_O2 {f : List D → Rp2} {j : Nat} (Fn : Dp' X.prog X.w X.K X.mg X.base j x ps (spO2 X.K ct n f)) (hr : Room k X.A) (hj : j ≤ k) (tk : Takes X W) (hg : Gl X x) (hn : ∀ env cs ds cs', mas env cs = .ok ds cs' → ds.length = n)
    (ha : PA X (e :: es) (tA X.K ct W mas)) (hdb : (x == ("__debug__" : Str)) = false := by decide) (he : starEach (e :: es) X.env = (false, eval e X.env) :: starEach es X.env := by rfl) (hpl : (backTo pos (starEach es X.env)).any (·.1) = false := by rfl) :
    PE X (.Call (.Name x p) (e :: es) [] pos) (tD X.K ct W (xCallO2 f mas)) := by
  obtain ⟨fa, fd, hm, hk, hb, Fn⟩ := Fn
  refine PE.imp (pe_callS Fn (hr.mono hj) hg hm hk hb (fun σ => passAt tk σ) ha hdb he hpl) ?_
  rintro σ H Q ⟨F, as, env, cs, ok, sl, h⟩
  refine ⟨F, as, env, cs, ok, sl, ?_⟩
  have h2 := out_bnd h
  cases q : mas env cs with
  | no =>
    rw [q] at h2
    exact h2
  | ex y cs2 =>
    rw [q] at h2
    exact h2
  | ok ds cs2 =>
    rw [q] at h2
    intro F1 H1 as1 g1 ok1 vs hvs
    have h3 : out X.K ct W σ.length F1 H1 as1 (if noRL ds = true then (match f ds with
      | .ok L => if L.all noRL = true then .ok (.lst (refsN cs2.length L.length)) (cs2 ++ L) else .no
      | .ex x => .ex x cs2
      | .no => .no) else .no) (oD X.K Q) := h2 F1 H1 as1 g1 ok1
    split at h3
    · rename_i nr
      refine ⟨F1, ds, ok_nil ok1, hvs.noR nr, hn env cs ds cs2 q, ?_⟩
      cases q2 : f ds with
      | no =>
        rw [q2] at h3
        exact False.elim h3
      | ex y =>
        rw [q2] at h3
        intro c d σ' F2 H2 as2 _ g ok2 hx
        have ea : as2 = [] := List.eq_nil_of_length_eq_zero ok2.len
        subst ea
        obtain ⟨g3, ok3⟩ := gro_nil ok1 g ok2
        exact h3 c d σ F2 H2 as1 rfl g3 ok3 hx
      | ok L =>
        rw [q2] at h3
        dsimp only at h3
        split at h3
        · rename_i nl
          intro F2 H2 as2 g ok2 a ha
          obtain ⟨g3, ok3⟩ := ok_join ok1 g ok2 (List.all_eq_true.mp nl)
          refine h3 F2 H2 (as1 ++ as2) g3 ok3 _ (.lst ha ?_)
          have := refsN_dv (K := X.K) (F := F2) (as := as1 ++ as2) (n := cs2.length) as2 fun j p hp => by
            rw [List.getElem?_append_right (by rw [ok1.len]; omega), ok1.len, Nat.add_sub_cancel_left]
            exact hp
          rw [ok2.len] at this
          exact this
        · exact False.elim h3
    · exact False.elim h3
end
end G
namespace G
open L2 PySem PySem.Spec PyProof.Rows
theorem fn_no2 {P : Program} {w : World} {K : PySem.W.Frag} {mg : Str → Option Value} {base : Heap} {ct : Ct} {f : Addr} {fd : FuncData} {ps : List Str} {k n : Nat} (hn : ps.length = n) : FnP P w K mg base k f fd ps (spO2 K ct n fun _ => .no) := ⟨fun vs H Q E h => by
  obtain ⟨_, _, _, hv, hl, _⟩ := h
  rw [hv.length, hl, hn], fun _ _ _ _ _ _ _ _ _ _ _ _ _ h => by
  obtain ⟨_, _, _, _, _, h⟩ := h
  exact False.elim h⟩
end G
/-! G7: try, caught errors asked for their classes; the head's Hook with facts of classes. -/
namespace G
open L2 PySem PySem.Spec PyProof.Rows
/-! ### the classes -/
def X4.eqb : X4 → X4 → Bool
  | .lines, .lines | .thing, .thing | .kind, .kind | .nonet, .nonet => true
  | _, _ => false
structure Xt (K : PySem.W.Frag) (mg : Str → Option Value) (ct : Ct) (ne : Addr) : Prop where
  ex : ∀ y : X4, ExcC K (ct.at4 y)
  is4 : ∀ y z : X4, PySem.W.kitOne K (.ref (ct.at4 y)) (.ref (ct.at4 z)) = some (y.eqb z)
  isN : ∀ y : X4, PySem.W.kitOne K (.ref (ct.at4 y)) (.ref ct.net) = some false
  isV : ∀ y : X4, PySem.W.kitOne K (.ref (ct.at4 y)) (.type "ValueError") = some true
  em : ∀ y : X4, PySem.W.exmOne K (.ref (ct.at4 y)) (.ref ne) = some true
  mgE : mg "NetError" = some (.ref ne)
  mgN : mg "BadNet" = some (.ref ct.net)
  mgV : mg "ValueError" = none
def ctOf (K : PySem.W.Frag) : Ct := ⟨He.ga K "BadLines", He.ga K "BadThing", He.ga K "BadKind", He.ga K "NoNet", He.ga K "BadNet"⟩
def exCB (K : PySem.W.Frag) (D : Addr) : Bool := decide (PySem.W.findIn K (.ref D) "__getattribute__" = some (some (.builtin "BaseException.__getattribute__"))) && (decide (PySem.W.findIn K (.ref D) "__getattr__" = some none) &&
  (decide (PySem.W.subIn K (.ref D) (.type "BaseException") = some true) && (PySem.W.hasDictIn K D && (decide (PySem.W.findIn K (.ref D) "__class__" = some (some (.builtin "object.__class__"))) &&
  (decide (PySem.W.specialIn K (.builtin "object.__class__") "__get__" = some (some (.builtin "getset_descriptor.__get__"))) && (decide (PySem.W.takesIn K (.builtin "object.__class__") = some true) && decide (PySem.W.mroIn K D (.type "object") = some true)))))))
theorem exCB_ok {K : PySem.W.Frag} {D : Addr} (h : exCB K D = true) : ExcC K D := by
  obtain ⟨h1, h⟩ := He.ba h
  obtain ⟨h2, h⟩ := He.ba h
  obtain ⟨h3, h⟩ := He.ba h
  obtain ⟨h4, h⟩ := He.ba h
  obtain ⟨h5, h⟩ := He.ba h
  obtain ⟨h6, h⟩ := He.ba h
  obtain ⟨h7, h8⟩ := He.ba h
  exact ⟨of_decide_eq_true h1, of_decide_eq_true h2, of_decide_eq_true h3, h4, of_decide_eq_true h5, of_decide_eq_true h6, of_decide_eq_true h7, of_decide_eq_true h8⟩
def x4s : List X4 := [.lines, .thing, .kind, .nonet]
theorem x4s_all {p : X4 → Bool} (h : x4s.all p = true) (y : X4) : p y = true := by
  have := List.all_eq_true.mp h y
  cases y <;> exact this (by simp [x4s])
def xtY (K : PySem.W.Frag) (y : X4) : Bool :=
  let ct := ctOf K
  exCB K (ct.at4 y) && ((x4s.all fun z => decide (PySem.W.kitOne K (.ref (ct.at4 y)) (.ref (ct.at4 z)) = some (y.eqb z))) &&
    (decide (PySem.W.kitOne K (.ref (ct.at4 y)) (.ref ct.net) = some false) && (decide (PySem.W.kitOne K (.ref (ct.at4 y)) (.type "ValueError") = some true) && decide (PySem.W.exmOne K (.ref (ct.at4 y)) (.ref (He.ga K "NetError")) = some true))))
def xtB (K : PySem.W.Frag) : Bool := x4s.all (xtY K)
theorem xtB_ok {K : PySem.W.Frag} {h : Heap} {mg : Str → Option Value} (X : K.In h) (Gn : h.Ns mainGlobals mg) (c1 : (He.Fa.glo "NetError").ok K = true) (c2 : (He.Fa.glo "BadNet").ok K = true) (c3 : (He.Fa.free "ValueError").ok K = true) (h : xtB K = true) : Xt K mg (ctOf K) (He.ga K "NetError") := by
  have key : ∀ y, xtY K y = true := fun y => x4s_all h y
  refine ⟨fun y => ?_, fun y z => ?_, fun y => ?_, fun y => ?_, fun y => ?_, He.glo_ok X Gn c1, He.glo_ok X Gn c2, He.free_ok X Gn c3⟩
  · exact exCB_ok (He.ba (key y)).1
  · exact of_decide_eq_true (x4s_all (He.ba (He.ba (key y)).2).1 z)
  · exact of_decide_eq_true (He.ba (He.ba (He.ba (key y)).2).2).1
  · exact of_decide_eq_true (He.ba (He.ba (He.ba (He.ba (key y)).2).2).2).1
  · exact of_decide_eq_true (He.ba (He.ba (He.ba (He.ba (key y)).2).2).2).2
/-! ### the Hook with one more fact -/
abbrev AlX : Type := He.AlD × Bool
def obsX (fa : List He.Fa) (fn : List He.DefD) (ex : PySem.W.Frag → Bool) (K : PySem.W.Frag) : AlX := (He.obsD fa fn K, ex K)
def obsXG (n : Nat) (fa : List He.Fa) (fn : List He.DefD) (ex : PySem.W.Frag → Bool) (g : Addr → Option Obj) : AlX := obsX fa fn ex (He.frG g (He.asD g n))
def hookX (n : Nat) (fa : List He.Fa) (fn : List He.DefD) (ex : PySem.W.Frag → Bool) : PySem.W.Hook where
  α := AlX
  obs := fun s => obsXG n fa fn ex s.heap.get?
  val := fun _ => (He.valD fn, true)
  says := fun _ h => ∃ K : PySem.W.Frag, K.In h ∧ He.SaysD fa fn K ∧ ex K = true
  of := fun _ _ e => ⟨_, He.frG_in, congrArg (fun z : AlX => z.1) e, congrArg (fun z : AlX => z.2) e⟩
  keeps := fun _ _ _ ⟨K, hK, c⟩ k => ⟨K, PySem.W.Frag.In.keeps hK k, c⟩
theorem obsXG_eq {n : Nat} {fa : List He.Fa} {fn : List He.DefD} {ex : PySem.W.Frag → Bool} {g : Addr → Option Obj} {s : Shared} (h : ∀ a, g a = s.heap.get? a) : obsXG n fa fn ex g = (hookX n fa fn ex).obs s := by
  have e : g = s.heap.get? := funext h
  rw [e] <;> rfl
/-! ### asked in a suite -/
def tEb (i : Nat) (a : Addr) (b : Bool) : TE := fun σ H Q => σ[i]? = some (some (.ref a)) ∧ Q (.bl b) H
def tTb (i : Nat) (a : Addr) (b : Bool) : TT := fun σ H Q => σ[i]? = some (some (.ref a)) ∧ Q b H
def tSb (i : Nat) (a : Addr) (b : Bool) : TS := fun E σ H => σ[i]? = some (some (.ref a)) ∧ E.rt (.bl b) H
section
variable {X : Cx} {ct : Ct} {ne a D c : Addr} {oe : Obj} {pn : List (Addr × Obj)} {e : Expr} {x : Str} {p p2 pos : Pos} {i : Nat} {b b' : Bool}
theorem pe_isOwn (C : ExcC X.K D) (hz : Zc (.ref D) none oe) (hf : ∃ vs, oe.data = .fields vs) (hI : X.mg "isinstance" = none) (hm : X.mg x = some (.ref c)) (k : PySem.W.kitOne X.K (.ref D) (.ref c) = some b) (he : PE (X.suite a ((a, oe) :: pn)) e (tVar i))
    (hgI : Gl (X.suite a ((a, oe) :: pn)) "isinstance") (hg : Gl (X.suite a ((a, oe) :: pn)) x) (hd : (x == ("__debug__" : Str)) = false := by decide)
    (h1 : starEach [e, .Name x p2] X.env = (false, eval e X.env) :: starEach [.Name x p2] X.env := by rfl) (h2 : starEach [.Name x p2] X.env = (false, eval (.Name x p2) X.env) :: starEach [] X.env := by rfl) (hpl : (backTo pos (starEach [.Name x p2] X.env)).any (·.1) = false := by rfl) :
    PE (X.suite a ((a, oe) :: pn)) (.Call (.Name "isinstance" p) [e, .Name x p2] [] pos) (tEb i a b) := PE.imp (pe_callB (call_isE C hz hf) hgI hI (by decide +kernel) (pa_cons he (pa_cons (pe_glob (v := .ref c) hg hm rfl hd) pa_nil h2) h1) (by decide) (by decide) h1 hpl) (by
  rintro σ H Q ⟨h1, h2⟩
  exact ⟨_, h1, .ref c, .ref c, b, rfl, fun _ r => r, k, h2⟩)
theorem pe_isVal (C : ExcC X.K D) (hz : Zc (.ref D) none oe) (hf : ∃ vs, oe.data = .fields vs) (hI : X.mg "isinstance" = none) (hm : X.mg "ValueError" = none) (k : PySem.W.kitOne X.K (.ref D) (.type "ValueError") = some b) (he : PE (X.suite a ((a, oe) :: pn)) e (tVar i))
    (hgI : Gl (X.suite a ((a, oe) :: pn)) "isinstance") (hg : Gl (X.suite a ((a, oe) :: pn)) "ValueError")
    (h1 : starEach [e, .Name "ValueError" p2] X.env = (false, eval e X.env) :: starEach [.Name "ValueError" p2] X.env := by rfl) (h2 : starEach [.Name "ValueError" p2] X.env = (false, eval (.Name "ValueError" p2) X.env) :: starEach [] X.env := by rfl) (hpl : (backTo pos (starEach [.Name "ValueError" p2] X.env)).any (·.1) = false := by rfl) :
    PE (X.suite a ((a, oe) :: pn)) (.Call (.Name "isinstance" p) [e, .Name "ValueError" p2] [] pos) (tEb i a b) := PE.imp (pe_callB (call_isE C hz hf) hgI hI (by decide +kernel) (pa_cons he (pa_cons (pe_bltn (v := .ty "ValueError") hg hm (by decide +kernel) rfl) pa_nil h2) h1) (by decide) (by decide) h1 hpl) (by
  rintro σ H Q ⟨h1, h2⟩
  exact ⟨_, h1, .ty "ValueError", .type "ValueError", b, rfl, fun _ r => r, k, h2⟩)
variable {es : List Expr} {e2 : Expr}
theorem pt_b (h : PE X e (tEb i a b)) (he : ∀ whole, isTrue e X.env whole = (do let v ← whole; standAt e.pos; holding [v] (truthy v)) := by intro _; rfl) : PT X e (tTb i a b) := PT.imp (pt_val h he) (by
  rintro σ H Q ⟨h1, h2⟩
  exact ⟨h1, b, rfl, h2⟩)
theorem pw_orF1 (h : PT X e (tTb i a b)) : PW X (.BoolOp .Or [e] pos) (tTb i a b) := pw_or1 h
theorem pw_orF (h : PT X e (tTb i a false)) (h2 : PW X (.BoolOp .Or (e2 :: es) pos) (tTb i a b)) : PW X (.BoolOp .Or (e :: e2 :: es) pos) (tTb i a b) := PW.imp (pw_or h h2) (by
  rintro σ H Q ⟨h1, h2⟩
  exact ⟨h1, h1, h2⟩)
theorem pe_andT1 {op} (h : PE X e (tEb i a b)) : PE X (.BoolOp op [e] pos) (tEb i a b) := pe_one h
theorem pe_andT (h : PE X e (tEb i a true)) (h2 : PE X (.BoolOp .And (e2 :: es) pos) (tEb i a b)) : PE X (.BoolOp .And (e :: e2 :: es) pos) (tEb i a b) := PE.imp (pe_and h h2) (by
  rintro σ H Q ⟨h1, h2⟩
  exact ⟨h1, true, rfl, h1, h2⟩)
theorem pss_ifF {body : List Stmt} {rest : List Stmt} {u : TS} (h : PT X e (tTb i a false)) (hb : PSs X body u) (hr : PSs X rest (tSb i a b)) : PSs X (.If e body [] pos :: rest) (tSb i a b) := PSs.imp (pss_cons (ps_if h hb pss_nil) hr) (by
  rintro E σ H ⟨h1, h2⟩
  exact ⟨h1, h1, h2⟩)
theorem pss_retB (h : PE X e (tEb i a b)) : PSs X [.Return (some e) pos] (tSb i a b) := PSs.imp (pss_one (ps_ret h)) fun _ _ _ z => z
end
/-! ### try: body, except NetError as e: a truth -/
def sTryB (i : Nat) (body : En → M Fl) (g : X4 → Option Bool) : En → M Fl := fun env cs => if i < env.length then (match body env cs with
  | .ok f cs' => .ok f cs'
  | .ex .lines cs' => (match g .lines with
    | some b => .ok (.rt (.bl b)) cs'
    | none => .no)
  | .ex .thing cs' => (match g .thing with
    | some b => .ok (.rt (.bl b)) cs'
    | none => .no)
  | .ex .kind cs' => (match g .kind with
    | some b => .ok (.rt (.bl b)) cs'
    | none => .no)
  | .ex .nonet cs' => (match g .nonet with
    | some b => .ok (.rt (.bl b)) cs'
    | none => .no)
  | _ => .no) else .no
theorem sTryB4 (i : Nat) (body : En → M Fl) (g : X4 → Option Bool) (env : En) (cs cs' : Cs) (y : X4) (hi : i < env.length) (h : body env cs = .ex y.e cs') : sTryB i body g env cs = (match g y with
    | some b => .ok (.rt (.bl b)) cs'
    | none => .no) := by
  unfold sTryB
  rw [if_pos hi, h]
  cases y <;> rfl
theorem gs_tryB {X : Cx} {ct : Ct} {W : WX} {ne : Addr} {i : Nat} {n : Str} {mb : En → M Fl} {g : X4 → Option Bool} {body suite : List Stmt} {b₀ : Stmt} {np pos pos' : Pos} (T : Xt X.K X.mg ct ne) (hs : X.stack = X.env :: X.outer) (hf : X.env.frame = some X.env.locals) (hN : X.N.Nodup) (hi : X.N[i]? = some n) (hln : X.env.kindOf n = some .local) (hg : Gl X "NetError") (tk : Takes X W)
    (hb : ∀ (W : WX) (pn : List (Addr × Obj)) (xe : Value → Shared → Prop), Takes (X.tr pn xe) W → PassesOwn (model X.prog X.w) X.A X.env xe → PSs (X.tr pn xe) body (tS X.K ct W mb))
    (hsu : ∀ (y : X4) (b : Bool), g y = some b → ∀ (a : Addr) (oe : Obj) (pn : List (Addr × Obj)), Zc (.ref (ct.at4 y)) none oe → (∃ vs, oe.data = .fields vs) → PSs (X.suite a ((a, oe) :: pn)) (b₀ :: suite) (tSb i a b)) :
    PS X (.Try body [.ExceptHandler (some (.Name "NetError" np)) (some n) (b₀ :: suite) pos'] [] [] pos) (tS X.K ct W (sTryB i mb g)) := by
  refine PS.imp (ps_try_as (i := i) (c := .ref ne) (Wout := W) (ts := fun a cls d => fun E σ H => ∃ y b, g y = some b ∧ cls = .ref (ct.at4 y) ∧ d = none ∧ σ[i]? = some (some (.ref a)) ∧ E.rt (.bl b) H) hs hf hN hi hln ⟨hg, by decide, .inl T.mgE⟩ tk hb fun a oe cls d pn hz hfl => ?_) ?_
  · refine ⟨fun pins s σ H E I w => ?_⟩
    obtain ⟨y, b, hy, rfl, rfl, h1, h2⟩ := w
    exact (hsu y b hy a oe pn hz hfl).run pins s σ H E I ⟨h1, h2⟩
  · rintro E σ H ⟨F, as, env, cs, ok, sl, h⟩
    refine ⟨F, as, env, cs, ok, sl, ?_⟩
    by_cases hi0 : i < env.length
    case neg =>
      unfold sTryB at h
      rw [if_neg hi0] at h
      exact False.elim h
    cases q : mb env cs with
    | no =>
      unfold sTryB at h
      rw [if_pos hi0, q] at h
      exact h
    | ok f cs2 =>
      unfold sTryB at h
      rw [if_pos hi0, q] at h
      exact h
    | ex x cs2 =>
      intro c d σ' F1 H1 as1 hl g1 ok1 hx
      have main : ∀ y : X4, x = y.e → wAs X.K (.ref ne) i (fun a cls d => fun E σ H => ∃ y b, g y = some b ∧ cls = .ref (ct.at4 y) ∧ d = none ∧ σ[i]? = some (some (.ref a)) ∧ E.rt (.bl b) H) W E c d σ' H1 := fun y hy => by
        subst hy
        rw [sTryB4 i mb g env cs cs2 y hi0 q] at h
        have ec : c = .ref (ct.at4 y) ∧ d = none := by cases y <;> exact hx
        obtain ⟨rfl, rfl⟩ := ec
        refine ⟨true, T.em y, fun _ a _ => ?_, fun z => nomatch z⟩
        cases q2 : g y with
        | none =>
          rw [q2] at h
          exact False.elim h
        | some b =>
          rw [q2] at h
          have hi' : i < σ'.length := by
            rw [hl, sl.len]
            exact hi0
          exact ⟨y, b, q2, rfl, rfl, by rw [List.getElem?_set_self hi'], h F1 H1 as1 g1 ok1 _ (.bl b)⟩
      cases x with
      | lines => exact main .lines rfl
      | thing => exact main .thing rfl
      | kind => exact main .kind rfl
      | nonet => exact main .nonet rfl
      | net o =>
        unfold sTryB at h
        rw [if_pos hi0, q] at h
        exact False.elim h
end G
namespace G
open L2 PySem PySem.Spec PyProof.Rows
/-- a law that says True of every script -/
theorem law_ends {K : PySem.W.Frag} {ct : Ct} {H : Hp} {a : Addr} {ns : List Int} {f : List D → Rp} (hS : SqL K H a (ns.map V.int)) (h : f [.scr ns] = .ok (.bl true)) : spP K ct 1 f [.ref a] H (fun v _ => v = .bl true) fun _ _ _ => False := by
  refine ⟨H, [.scr ns], ⟨Ext.refl H, List.nodup_nil, rfl, fun i a xs h _ => by simp at h⟩, .cons (.scr hS) .nil, rfl, ?_⟩
  rw [h]
  intro F' H' as' _ _ v hv
  cases hv
  rfl
end G
namespace G
open L2 PySem PySem.Spec PyProof.Rows
/-- the end of a law whose defs let own errors out -/
theorem walk_own {l : PySem.W.OpenLaw} {n k : Nat} {q : Program} {loose : List Str} {XP : (Str → Option Value) → Heap → Prop} {YP : World → Heap → Prop} {d : DefRec} {x : Str}
    (hn : l.most = some n) (hn2 : n ≤ sizeLine) (hdf : d.params.defaults = []) (hr : Room k callerA)
    (F : ∀ (w : World) (mg : Str → Option Value) (fa : Addr) (h : Heap), YP w h → h.Ns mainGlobals mg → mg d.name = some (.ref fa) →
      ∃ (K : PySem.W.Frag) (fd : FuncData) (ct : Ct) (f : List D → Rp), K.In h ∧ (∀ (s : Shared) (u : Value), BindsTo s fd ⟨[u], []⟩ [(x, u)]) ∧
        (∀ ns : List Int, ns.length ≤ n → f [.scr ns] = .ok (.bl true)) ∧
        ∀ base : Heap, K.In base → base.Ns mainGlobals mg → FnP l.prog w K mg base k fa fd [x] (spP K ct 1 f)) :
    PySem.W.WalkO q loose XP YP l.row.toRowW d [] (fun f vs => PySem.call f vs) := by
  refine Att.attach_call hn hdf fun w s₀ s₁ mg mb fa o pm cd doc a vs ns Gs Y ho hd hcd hmg hobj hints hlen hg => ?_
  obtain ⟨K, fd, ct, f, KX, hb, hf, hF⟩ := F w mg fa _ Y Gs.T.g hmg
  refine law_call KX Gs.T.g Gs.T.b Gs.T.builtins Gs.T.nolimit hg hobj hints (Nat.le_trans hlen hn2) hr hF hb (fun H _ hS => law_ends hS (hf ns hlen)) fun H e s' z => ?_
  obtain ⟨a, B, H', cls, d, _, _, _, _, _, _, _, z⟩ := z
  exact z
end G
/-! G8: plain: loops by invariants, data of nets. -/
namespace G
open L2 PySem PySem.Spec PyProof.Rows
/-! ### loops -/
theorem seq_nx {a b : En → M Fl} {env e : En} {cs cs1 : Cs} (h : a env cs = .ok (.nx e) cs1) : sSeq a b env cs = b e cs1 := by
  show M.bnd (a env) _ cs = _
  rw [M.bnd_ok h]
theorem asg_nm {m : En → M D} {i : Nat} {env : En} {cs cs1 : Cs} {d : D} (h : m env cs = .ok d cs1) : sAsg m (.nm i) env cs = .ok (.nx (env.set i (some d))) cs1 := by
  show M.bnd (m env) _ cs = _
  rw [M.bnd_ok h]
  rfl
theorem drop_nx {m : En → M D} {env : En} {cs cs1 : Cs} {d : D} (h : m env cs = .ok d cs1) : sDrop m env cs = .ok (.nx env) cs1 := by
  show M.bnd (m env) _ cs = _
  rw [M.bnd_ok h]
  rfl
theorem ret_rt {m : En → M D} {env : En} {cs cs1 : Cs} {d : D} (h : m env cs = .ok d cs1) : sRet m env cs = .ok (.rt d) cs1 := by
  show M.bnd (m env) _ cs = _
  rw [M.bnd_ok h]
  rfl
theorem if_f {t : En → M Bool} {a b : En → M Fl} {env : En} {cs cs1 : Cs} (h : t env cs = .ok false cs1) : sIf t a b env cs = b env cs1 := by
  show M.bnd (t env) _ cs = _
  rw [M.bnd_ok h]
  rfl
theorem if_t {t : En → M Bool} {a b : En → M Fl} {env : En} {cs cs1 : Cs} (h : t env cs = .ok true cs1) : sIf t a b env cs = a env cs1 := by
  show M.bnd (t env) _ cs = _
  rw [M.bnd_ok h]
  rfl
theorem val_b {m : En → M D} {env : En} {cs cs1 : Cs} {k : Bool} (h : m env cs = .ok (.bl k) cs1) : bVal m env cs = .ok k cs1 := by
  show M.bnd (m env) _ cs = _
  rw [M.bnd_ok h]
  rfl
theorem not_b {t : En → M Bool} {env : En} {cs cs1 : Cs} {k : Bool} (h : t env cs = .ok k cs1) : bNot t env cs = .ok (!k) cs1 := by
  show M.bnd (t env) _ cs = _
  rw [M.bnd_ok h]
  rfl
theorem or_f {a b : En → M Bool} {env : En} {cs cs1 : Cs} (h : a env cs = .ok false cs1) : bOr a b env cs = b env cs1 := by
  show M.bnd (a env) _ cs = _
  rw [M.bnd_ok h]
  rfl
theorem or_t {a b : En → M Bool} {env : En} {cs cs1 : Cs} (h : a env cs = .ok true cs1) : bOr a b env cs = .ok true cs1 := by
  show M.bnd (a env) _ cs = _
  rw [M.bnd_ok h]
  rfl
theorem and_t {a b : En → M Bool} {env : En} {cs cs1 : Cs} (h : a env cs = .ok true cs1) : bAnd a b env cs = b env cs1 := by
  show M.bnd (a env) _ cs = _
  rw [M.bnd_ok h]
  rfl
theorem and_f {a b : En → M Bool} {env : En} {cs cs1 : Cs} (h : a env cs = .ok false cs1) : bAnd a b env cs = .ok false cs1 := by
  show M.bnd (a env) _ cs = _
  rw [M.bnd_ok h]
  rfl
theorem var_at {i : Nat} {env : En} {cs : Cs} {d : D} (h : env[i]? = some (some d)) : xVar i env cs = .ok d cs := by
  unfold xVar
  rw [h]
  rfl
theorem bin_ok {f : D → D → M D} {a b : En → M D} {env : En} {cs cs1 cs2 : Cs} {x y : D} (h : a env cs = .ok x cs1) (h2 : b env cs1 = .ok y cs2) : xBin f a b env cs = f x y cs2 := by
  show M.bnd (a env) _ cs = _
  rw [M.bnd_ok h, M.bnd_ok h2]
theorem un_ok {f : D → M D} {a : En → M D} {env : En} {cs cs1 : Cs} {x : D} (h : a env cs = .ok x cs1) : xUn f a env cs = f x cs1 := by
  show M.bnd (a env) _ cs = _
  rw [M.bnd_ok h]
theorem cons_ok {a : En → M D} {r : En → M (List D)} {env : En} {cs cs1 cs2 : Cs} {x : D} {xs : List D} (h : a env cs = .ok x cs1) (h2 : r env cs1 = .ok xs cs2) : aCons a r env cs = .ok (x :: xs) cs2 := by
  show M.bnd (a env) _ cs = _
  rw [M.bnd_ok h, M.bnd_ok h2]
  rfl
theorem callP_ok {f : List D → Rp} {a : En → M (List D)} {env : En} {cs cs1 : Cs} {xs : List D} {d : D} (h : a env cs = .ok xs cs1) (hn : noRL xs = true) (hf : f xs = .ok d) : xCallP f a env cs = .ok d cs1 := by
  show M.bnd (a env) _ cs = _
  rw [M.bnd_ok h]
  show (if noRL xs = true then up (f xs) else M.no) cs1 = _
  rw [if_pos hn, hf]
  rfl
theorem callO2_ok {f : List D → Rp2} {a : En → M (List D)} {env : En} {cs cs1 : Cs} {xs : List D} {L : List (List D)} (h : a env cs = .ok xs cs1) (hn : noRL xs = true) (hf : f xs = .ok L) (hL : L.all noRL = true) : xCallO2 f a env cs = .ok (.lst (refsN cs1.length L.length)) (cs1 ++ L) := by
  show M.bnd (a env) _ cs = _
  rw [M.bnd_ok h]
  show (if noRL xs = true then (match f xs with
    | .ok L => if L.all noRL = true then .ok (.lst (refsN cs1.length L.length)) (cs1 ++ L) else .no
    | .ex x => .ex x cs1
    | .no => .no) else (.no : Rs D)) = _
  rw [if_pos hn, hf]
  show (if L.all noRL = true then _ else _) = _
  rw [if_pos hL]
theorem call_ok {g : List D → M D} {a : En → M (List D)} {env : En} {cs cs1 : Cs} {xs : List D} (h : a env cs = .ok xs cs1) : xCall g a env cs = g xs cs1 := by
  show M.bnd (a env) _ cs = _
  rw [M.bnd_ok h]
/-- a for loop that runs through -/
theorem forGo_inv {live : Cs → Bool} {t : Tg} {b : En → M Fl} (I : Nat → En → Cs → Prop) {xs : List D}
    (hl : ∀ i env cs, I i env cs → live cs = true)
    (hs : ∀ i x env cs, xs[i]? = some x → I i env cs → ∃ env1, tgS t x env = some env1 ∧ ∃ e' cs', b env1 cs = .ok (.nx e') cs' ∧ I (i + 1) e' cs') :
    ∀ {env : En} {cs : Cs}, I 0 env cs → ∃ e' cs', forGo live t b xs env cs = .ok (.nx e') cs' ∧ I xs.length e' cs' := by
  have gen : ∀ (ys : List D) (k : Nat), xs.drop k = ys → k ≤ xs.length → ∀ {env : En} {cs : Cs}, I k env cs → ∃ e' cs', forGo live t b ys env cs = .ok (.nx e') cs' ∧ I xs.length e' cs' := fun ys => by
    induction ys with
    | nil =>
      intro k e hk env cs h
      have ek := drop_nil e hk
      refine ⟨env, cs, ?_, by rw [← ek]; exact h⟩
      show guardM live _ cs = _
      unfold guardM
      rw [if_pos (hl _ _ _ h)]
      rfl
    | cons y ys ih =>
      intro k e hk env cs h
      obtain ⟨hx, hr, hlt⟩ := getElem_drop e
      obtain ⟨env1, h1, e', cs', h2, h3⟩ := hs k y env cs hx h
      obtain ⟨e2, cs2, h4, h5⟩ := ih (k + 1) hr hlt h3
      refine ⟨e2, cs2, ?_, h5⟩
      show guardM live (match tgS t y env with
        | some env1 => M.bnd (b env1) _
        | none => M.no) cs = _
      unfold guardM
      rw [if_pos (hl _ _ _ h), h1]
      show M.bnd (b env1) _ cs = _
      rw [M.bnd_ok h2]
      exact h4
  exact fun {env cs} h => gen xs 0 rfl (Nat.zero_le _) h
theorem for_inv {it : En → M It0} {t : Tg} {b : En → M Fl} {xs : List D} {live : Cs → Bool} {env : En} {cs cs1 : Cs} (I : Nat → En → Cs → Prop) (hi : it env cs = .ok ⟨xs, live⟩ cs1)
    (hl : ∀ i env cs, I i env cs → live cs = true)
    (hs : ∀ i x env cs, xs[i]? = some x → I i env cs → ∃ env1, tgS t x env = some env1 ∧ ∃ e' cs', b env1 cs = .ok (.nx e') cs' ∧ I (i + 1) e' cs') (h0 : I 0 env cs1) :
    ∃ e' cs', sFor it t b env cs = .ok (.nx e') cs' ∧ I xs.length e' cs' := by
  obtain ⟨e', cs', h1, h2⟩ := forGo_inv (t := t) (b := b) I hl hs h0
  refine ⟨e', cs', ?_, h2⟩
  show M.bnd (it env) _ cs = _
  rw [M.bnd_ok hi]
  exact h1
/-- a comprehension without a test whose items are reckoned one by one -/
theorem lcGo_map {live : Cs → Bool} {t : Tg} {te : En → M D} {env : En} {cs : Cs} (g : D → D) (hl : live cs = true) : ∀ {xs : List D}, (∀ x ∈ xs, ∃ env1, tgS t x env = some env1 ∧ te env1 cs = .ok (g x) cs) → lcGo live t bYes te env xs cs = .ok (xs.map g) cs
  | [], _ => by
    show guardM live _ cs = _
    unfold guardM
    rw [if_pos hl]
    rfl
  | x :: r, h => by
    obtain ⟨env1, h1, h2⟩ := h x List.mem_cons_self
    show guardM live (match tgS t x env with
      | some env1 => _
      | none => M.no) cs = _
    unfold guardM
    rw [if_pos hl, h1]
    show M.bnd (te env1) _ cs = _
    rw [M.bnd_ok h2, M.bnd_ok (lcGo_map g hl fun y hy => h y (List.mem_cons_of_mem _ hy))]
    rfl
theorem lc_map {c : Bool} {it : En → M It0} {own : List Nat} {t : Tg} {te : En → M D} {env : En} {cs cs1 : Cs} {xs : List D} {live : Cs → Bool} (g : D → D) (hi : it env cs = .ok ⟨xs, live⟩ cs1) (hl : live cs1 = true) (hz : szOk xs.length = true)
    (h : ∀ x ∈ xs, ∃ env1, tgS t x (wip env own) = some env1 ∧ te env1 cs1 = .ok (g x) cs1) : xLcN c it own t bYes te env cs = mkL c (xs.map g) cs1 := by
  show M.bnd (it env) _ cs = _
  rw [M.bnd_ok hi]
  show (if szOk xs.length = true then M.bnd (noX (lcGo live t bYes te (wip env own) xs)) _ else M.no) cs1 = _
  rw [if_pos hz]
  have e : noX (lcGo live t bYes te (wip env own) xs) cs1 = .ok (xs.map g) cs1 := by
    unfold noX
    rw [lcGo_map g hl h]
  rw [M.bnd_ok e]
/-! ### nets -/
abbrev Net := List (List (Int × Int))
def layD (xs : List (Int × Int)) : List D := xs.map pairD
def netD (N : Net) : D := .lst (N.map fun xs => .lst (layD xs))
def pyP (p : Int × Int) : PyData := .tuple [.int p.1, .int p.2]
def pyL (xs : List (Int × Int)) : PyData := .list (xs.map pyP)
def pyNet (N : Net) : PyData := .list (N.map pyL)
theorem pyGL_lay {r : Nat → Option PyData} : ∀ xs : List (Int × Int), pyGL r (layD xs) = some (xs.map pyP)
  | [] => rfl
  | p :: xs => by
    show (match pyG r (pairD p), pyGL r (layD xs) with
      | some p, some ps => some (p :: ps)
      | _, _ => none) = _
    rw [pyGL_lay xs]
    rfl
theorem pyGL_net {r : Nat → Option PyData} : ∀ N : Net, pyGL r (N.map fun xs => .lst (layD xs)) = some (N.map pyL)
  | [] => rfl
  | xs :: N => by
    show (match (pyGL r (layD xs)).map PyData.list, pyGL r (N.map fun xs => .lst (layD xs)) with
      | some p, some ps => some (p :: ps)
      | _, _ => none) = _
    rw [pyGL_net N, pyGL_lay xs]
    rfl
theorem py_net (cs : Cs) (N : Net) : py cs (netD N) = some (pyNet N) := by
  show (pyGL _ (N.map fun xs => .lst (layD xs))).map PyData.list = _
  rw [pyGL_net]
  rfl
theorem py_lay (cs : Cs) (xs : List (Int × Int)) : py cs (.lst (layD xs)) = some (pyL xs) := by
  show (pyGL _ (layD xs)).map PyData.list = _
  rw [pyGL_lay]
  rfl
theorem py_cell {cs : Cs} {i : Nat} {xs : List (Int × Int)} (h : cs[i]? = some (layD xs)) : py cs (.ref i) = some (pyL xs) := by
  show (match cs[i]? with
    | some xs => (pyGL (pyN cs 2) xs).map PyData.list
    | none => none) = _
  rw [h]
  show (pyGL (pyN cs 2) (layD xs)).map PyData.list = _
  rw [pyGL_lay]
  rfl
theorem pyGL_cells {cs : Cs} : ∀ (N : Net) (is : List Nat), is.length = N.length → (∀ (j i : Nat) (xs : List (Int × Int)), is[j]? = some i → N[j]? = some xs → cs[i]? = some (layD xs)) → pyGL (pyN cs 3) (is.map D.ref) = some (N.map pyL)
  | [], [], _, _ => rfl
  | xs :: N, i :: is, hl, h => by
    have h1 := py_cell (h 0 i xs rfl rfl)
    show (match py cs (.ref i), pyGL (pyN cs 3) (is.map D.ref) with
      | some p, some ps => some (p :: ps)
      | _, _ => none) = _
    rw [h1, pyGL_cells N is (by simpa using hl) fun j k ys hj hy => h (j + 1) k ys (by simpa using hj) (by simpa using hy)]
    rfl
  | [], _ :: _, hl, _ => by cases hl
  | _ :: _, [], hl, _ => by cases hl
theorem py_cells {cs : Cs} {N : Net} {is : List Nat} (hl : is.length = N.length) (h : ∀ (j i : Nat) (xs : List (Int × Int)), is[j]? = some i → N[j]? = some xs → cs[i]? = some (layD xs)) : py cs (.lst (is.map D.ref)) = some (pyNet N) := by
  show (pyGL (pyN cs 3) (is.map D.ref)).map PyData.list = _
  rw [pyGL_cells N is hl h]
  rfl
theorem lay_pyP : ∀ xs : List (Int × Int), PyData.canLayAll0 (xs.map pyP) = true ∧ PyData.depthAll (xs.map pyP) ≤ 1
  | [] => ⟨rfl, by simp [PyData.depthAll]⟩
  | p :: xs => by
    obtain ⟨h1, h2⟩ := lay_pyP xs
    constructor
    · simp [PyData.canLayAll0, PyData.canLay0, pyP, h1]
    · simp [PyData.depthAll, PyData.depth, pyP]
      omega
theorem lay_pyL : ∀ N : Net, PyData.canLayAll0 (N.map pyL) = true ∧ PyData.depthAll (N.map pyL) ≤ 2
  | [] => ⟨rfl, by simp [PyData.depthAll]⟩
  | xs :: N => by
    obtain ⟨h1, h2⟩ := lay_pyL N
    obtain ⟨h3, h4⟩ := lay_pyP xs
    constructor
    · simp [PyData.canLayAll0, PyData.canLay0, pyL, h1, h3]
    · simp [PyData.depthAll, PyData.depth, pyL]
      omega
theorem shaped_pyL (xs : List (Int × Int)) : SeqAt.shaped (pyL xs) = true := by
  obtain ⟨h1, h2⟩ := lay_pyP xs
  simp [SeqAt.shaped, pyL, PyData.canLay0, PyData.depth, h1]
  omega
theorem shaped_pyNet (N : Net) : SeqAt.shaped (pyNet N) = true := by
  obtain ⟨h1, h2⟩ := lay_pyL N
  simp [SeqAt.shaped, pyNet, PyData.canLay0, PyData.depth, h1]
  omega
theorem eqvAll_pyP : ∀ xs ys : List (Int × Int), PyData.eqvAll (xs.map pyP) (ys.map pyP) = decide (xs = ys)
  | [], [] => by simp [PyData.eqvAll]
  | [], _ :: _ => by simp [PyData.eqvAll]
  | _ :: _, [] => by simp [PyData.eqvAll]
  | p :: xs, q :: ys => by
    obtain ⟨p1, p2⟩ := p
    obtain ⟨q1, q2⟩ := q
    simp only [List.map_cons, PyData.eqvAll, eqvAll_pyP xs ys, pyP, PyData.eqv]
    by_cases h1 : p1 = q1 <;> by_cases h2 : p2 = q2 <;> by_cases h3 : xs = ys <;> simp [h1, h2, h3]
theorem eqv_pyL (xs ys : List (Int × Int)) : PyData.eqv (pyL xs) (pyL ys) = decide (xs = ys) := by
  unfold pyL
  rw [PyData.eqv]
  exact eqvAll_pyP xs ys
theorem eqvAll_pyL : ∀ N M : Net, PyData.eqvAll (N.map pyL) (M.map pyL) = decide (N = M)
  | [], [] => by simp [PyData.eqvAll]
  | [], _ :: _ => by simp [PyData.eqvAll]
  | _ :: _, [] => by simp [PyData.eqvAll]
  | xs :: N, ys :: M => by
    rw [List.map_cons, List.map_cons, PyData.eqvAll, eqvAll_pyL N M, eqv_pyL]
    by_cases h1 : xs = ys <;> by_cases h2 : N = M <;> simp [h1, h2]
theorem eqv_pyNet (N M : Net) : PyData.eqv (pyNet N) (pyNet M) = decide (N = M) := by
  unfold pyNet
  rw [PyData.eqv]
  exact eqvAll_pyL N M
theorem eq_net {b : Bool} {cs : Cs} {d e : D} {N M : Net} (h1 : py cs d = some (pyNet N)) (h2 : py cs e = some (pyNet M)) : opEq b d e cs = .ok (.bl (if b = true then decide (N = M) else !decide (N = M))) cs := by
  unfold opEq
  rw [h1, h2]
  show (if (SeqAt.shaped (pyNet N) && SeqAt.shaped (pyNet M)) = true then _ else _) = _
  rw [shaped_pyNet, shaped_pyNet, if_pos (show (true && true) = true from rfl), eqv_pyNet]
theorem eq_lay {b : Bool} {cs : Cs} {d e : D} {N M : List (Int × Int)} (h1 : py cs d = some (pyL N)) (h2 : py cs e = some (pyL M)) : opEq b d e cs = .ok (.bl (if b = true then decide (N = M) else !decide (N = M))) cs := by
  unfold opEq
  rw [h1, h2]
  show (if (SeqAt.shaped (pyL N) && SeqAt.shaped (pyL M)) = true then _ else _) = _
  rw [shaped_pyL, shaped_pyL, if_pos (show (true && true) = true from rfl), eqv_pyL]
theorem noR_lay : ∀ xs : List (Int × Int), noRL (layD xs) = true
  | [] => rfl
  | p :: xs => by
    show (noR (pairD p) && noRL (layD xs)) = true
    rw [noR_lay xs]
    rfl
theorem all_noR (N : Net) : (N.map layD).all noRL = true := by
  rw [List.all_eq_true]
  intro x hx
  obtain ⟨xs, _, rfl⟩ := List.mem_map.mp hx
  exact noR_lay xs
theorem eqDL_refl_lay : ∀ xs : List (Int × Int), eqDL (layD xs) (layD xs) = true
  | [] => rfl
  | p :: xs => by
    show (eqD (pairD p) (pairD p) && eqDL (layD xs) (layD xs)) = true
    rw [eqDL_refl_lay xs]
    show (((p.1 == p.1) && ((p.2 == p.2) && true)) && true) = true
    simp
/-- from a checked list of lists to a net -/
def toNet : List (List D) → Option Net
  | [] => some []
  | xs :: r => match pairsOf xs, toNet r with
    | some p, some q => some (p :: q)
    | _, _ => none
theorem toNet_eq : ∀ {L : List (List D)} {N : Net}, toNet L = some N → L = N.map layD
  | [], N, e => by
    cases e
    rfl
  | xs :: r, N, e => by
    have e2 : (match pairsOf xs, toNet r with
      | some p, some q => some (p :: q)
      | _, _ => none) = some N := e
    split at e2
    · rename_i p q e3 e4
      cases e2
      rw [pairsOf_map e3, toNet_eq e4]
      rfl
    · cases e2
def isT : Rp → Bool
  | .ok (.bl true) => true
  | _ => false
theorem isT_eq {r : Rp} (h : isT r = true) : r = .ok (.bl true) := by
  unfold isT at h
  split at h
  · rfl
  · cases h
end G
namespace G
open L2 PySem PySem.Spec PyProof.Rows
theorem seq_rt {a b : En → M Fl} {env : En} {cs cs1 : Cs} {d : D} (h : a env cs = .ok (.rt d) cs1) : sSeq a b env cs = .ok (.rt d) cs1 := by
  show M.bnd (a env) _ cs = _
  rw [M.bnd_ok h]
  rfl
theorem runP_rt {c : En → M Fl} {k : Nat} {ds : List D} {d p : D} {cs : Cs} (h : c (startE k ds) [] = .ok (.rt d) cs) (hr : res cs d = some p) : runP c k ds = .ok p := by
  unfold runP
  rw [h]
  show (match res cs d with
    | some p => Rp.ok p
    | none => Rp.no) = _
  rw [hr]
theorem runP_nx {c : En → M Fl} {k : Nat} {ds : List D} {e : En} {cs : Cs} (h : c (startE k ds) [] = .ok (.nx e) cs) : runP c k ds = .ok .non := by
  unfold runP
  rw [h]
theorem runP_ex {c : En → M Fl} {k : Nat} {ds : List D} {x : Exn} {cs : Cs} (h : c (startE k ds) [] = .ex x cs) : runP c k ds = .ex x := by
  unfold runP
  rw [h]
theorem atI_map_int (ns : List Int) (k : Nat) (h : k < ns.length) : atI (ns.map D.int) (k : Int) = some (.int ns[k]) := by
  unfold atI ixN
  rw [List.length_map, if_pos (by omega), if_pos (by omega)]
  simp [h]
theorem guard_ok {live : Cs → Bool} {α : Type} {m : M α} {cs : Cs} (h : live cs = true) : guardM live m cs = m cs := by
  unfold guardM
  rw [if_pos h]
end G
namespace G
open L2 PySem PySem.Spec PyProof.Rows
theorem blsOf_map {α : Type} (g : α → Bool) : ∀ xs : List α, blsOf (xs.map fun x => D.bl (g x)) = some (xs.map g)
  | [] => rfl
  | x :: xs => by
    show (blsOf (xs.map fun x => D.bl (g x))).map (g x :: ·) = _
    rw [blsOf_map g xs]
    rfl
/-- all([.. for p in layer]) over a cell's pairs, each item true -/
theorem all_true {te : En → M D} {env : En} {cs : Cs} {j s i : Nat} {xs : List (Int × Int)} (he : env[j]? = some (some (.ref i))) (hc : cs[i]? = some (layD xs)) (hz : xs.length ≤ 1000000)
    (h : ∀ p ∈ xs, te ((wip env [s]).set s (some (pairD p))) cs = .ok (.bl true) cs) : xCall opAll (aCons (xLcN false (itSeq (xVar j)) [s] (.nm s) bYes te) aNil) env cs = .ok (.bl true) cs := by
  have hi : itSeq (xVar j) env cs = .ok ⟨layD xs, liveOf (layD xs) (.ref i)⟩ cs := by
    show M.bnd (xVar j env) _ cs = _
    rw [M.bnd_ok (var_at he)]
    show (match cs[i]? with
      | some xs => Rs.ok (It0.mk xs (liveOf xs (.ref i))) cs
      | none => .no) = _
    rw [hc]
  have hl : liveOf (layD xs) (.ref i) cs = true := by
    show (match cs[i]? with
      | some ys => eqDL ys (layD xs)
      | none => false) = true
    rw [hc]
    exact eqDL_refl_lay xs
  have e : xLcN false (itSeq (xVar j)) [s] (.nm s) bYes te env cs = .ok (.lst ((layD xs).map fun _ => D.bl true)) cs := by
    rw [lc_map (fun _ => D.bl true) hi hl (by unfold layD szOk; rw [List.length_map]; exact decide_eq_true hz) fun x hx => ?_]
    · rfl
    · obtain ⟨p, hp, rfl⟩ := List.mem_map.mp hx
      exact ⟨_, rfl, h p hp⟩
  rw [call_ok (cons_ok e rfl)]
  show (match (some ((layD xs).map fun _ => D.bl true)).bind blsOf with
    | some bs => Rs.ok (D.bl (bs.all id)) cs
    | none => .no) = _
  rw [Option.bind_some, blsOf_map (fun _ => true)]
  have : ((layD xs).map fun _ => true).all id = true := by
    rw [List.all_eq_true]
    intro b hb
    obtain ⟨_, _, rfl⟩ := List.mem_map.mp hb
    rfl
  show Rs.ok (D.bl (((layD xs).map fun _ => true).all id)) cs = _
  rw [this]
end G
namespace G
open L2 PySem PySem.Spec PyProof.Rows
theorem app_ok {o v : En → M D} {env : En} {cs cs1 cs2 : Cs} {i : Nat} {y : D} {xs : List D} (h : o env cs = .ok (.ref i) cs1) (h2 : v env cs1 = .ok y cs2) (hc : cs2[i]? = some xs) (hz : xs.length ≤ 1000000) : xApp o v env cs = .ok .non (cs2.set i (xs ++ [y])) := by
  show M.bnd (o env) _ cs = _
  rw [M.bnd_ok h]
  show M.bnd (v env) _ cs1 = _
  rw [M.bnd_ok h2]
  unfold cApp
  rw [hc]
  show (if szOk xs.length = true then _ else _) = _
  rw [if_pos (show szOk xs.length = true from decide_eq_true hz)]
theorem itSeq_ok {m : En → M D} {env : En} {cs cs1 : Cs} {d : D} {xs : List D} (h : m env cs = .ok d cs1) (hs : seqOf cs1 d = some xs) : itSeq m env cs = .ok ⟨xs, liveOf xs d⟩ cs1 := by
  show M.bnd (m env) _ cs = _
  rw [M.bnd_ok h]
  show (match seqOf cs1 d with
    | some xs => Rs.ok (It0.mk xs (liveOf xs d)) cs1
    | none => .no) = _
  rw [hs]
theorem itZip_ok {m m' : En → M D} {env : En} {cs cs1 cs2 : Cs} {d e : D} {xs ys : List D} (h : m env cs = .ok d cs1) (h2 : m' env cs1 = .ok e cs2) (hs : seqOf cs2 d = some xs) (hs2 : seqOf cs2 e = some ys) :
    itZip m m' env cs = .ok ⟨(xs.zip ys).map fun p => .tup [p.1, p.2], fun cs' => liveOf xs d cs' && liveOf ys e cs'⟩ cs2 := by
  show M.bnd (m env) _ cs = _
  rw [M.bnd_ok h]
  show M.bnd (m' env) _ cs1 = _
  rw [M.bnd_ok h2]
  show (match seqOf cs2 d, seqOf cs2 e with
    | some xs, some ys => Rs.ok (It0.mk ((xs.zip ys).map fun (p : D × D) => .tup [p.1, p.2]) fun cs' => liveOf xs d cs' && liveOf ys e cs') cs2
    | _, _ => .no) = _
  rw [hs, hs2]
theorem refsN_get {n m j : Nat} {x : D} (h : (refsN n m)[j]? = some x) : j < m ∧ x = .ref (n + j) := by
  unfold refsN at h
  rw [List.getElem?_map] at h
  by_cases hj : j < m
  · rw [List.getElem?_range hj] at h
    exact ⟨hj, (Option.some.inj h).symm⟩
  · rw [List.getElem?_eq_none (by rw [List.length_range]; omega)] at h
    cases h
theorem refsN_eq (n m : Nat) : refsN n m = ((List.range m).map (n + ·)).map D.ref := by
  unfold refsN
  rw [List.map_map]
  rfl
theorem asP_ok {f : List D → Rp2} {ds : List D} {N : Net} (h : f ds = .ok (N.map layD)) : asP f ds = .ok (netD N) := by
  unfold asP
  rw [h]
  show (if (N.map layD).all noRL = true then _ else _) = _
  rw [if_pos (all_noR N), List.map_map]
  rfl
end G
/-! G9: a def that is told a caught error. -/
namespace G
open L2 PySem PySem.Spec PyProof.Rows
/-! ### xs.count(y), flat items -/
def rCntF (K : PySem.W.Frag) : V → List V → Hp → VK → Prop := fun x xs H Q => ∃ (a : Addr) (ys : List V) (y : V), x = .ref a ∧ xs = [y] ∧ SqL K H a ys ∧ flatV y = true ∧ ys.all flatV = true ∧ Q (.int (ys.countP fun z => eqV z y : Nat)) H
theorem countF_vals {y : V} : ∀ {ys : List V} {us : List Value}, Vals ys us → ys.all flatV = true → us.countP (eqU y) = ys.countP fun z => eqV z y
  | _, _, .nil, _ => rfl
  | z :: ys, u :: us, .cons r t, f => by
    obtain ⟨f1, f2⟩ := Bool.and_eq_true_iff.mp (show (flatV z && ys.all flatV) = true from f)
    rw [List.countP_cons, List.countP_cons, countF_vals t f2, eqU_of r f1]
theorem mt_countF {X : Cx} : MtR X "list.count" (rCntF X.K) := fun pins s σ H x xs v us Q I rx rxs h => by
  obtain ⟨a, ys, y, rfl, rfl, hs, fy, fys, q⟩ := h
  cases rx
  obtain ⟨u, rfl, ry⟩ := rxs.one
  obtain ⟨its, rv, ⟨⟨cls, dd, data, sl⟩, n, ho, hc, hdn, hd⟩, _⟩ := I.list hs
  simp only at hc hd
  subst hc hd
  refine call_meets PySem.F.slot_list_count ⟨_, ho, rfl⟩ PySem.F.entry_list_count (PySem.F.args_list_count_2 _ _) (SeqAt.list_countAt a its.toArray n dd sl u (eqU y)) ⟨ho, fun w hw => mem_eqAt ry fy rv fys w (by simpa using hw), ?_⟩
  refine ⟨.int (ys.countP fun z => eqV z y : Nat), H, I.tok _, ⟨s.toks, ?_⟩, q⟩
  rw [show its.toArray.toList.countP (eqU y) = ys.countP fun z => eqV z y from countF_vals rv fys]
/-! ### isinstance of a pinned error -/
theorem call_isX {X : Cx} {p : Addr × Obj} {D : Addr} (C : ExcC X.K D) (hp : p ∈ X.pn) (hz : Zc (.ref D) none p.2) (hf : ∃ vs, p.2.data = .fields vs) : CallR X (.builtin "isinstance") (rIsE X.K D p.1) := fun pins s σ H xs us Q I r h => by
  obtain ⟨c, cv, b, rfl, hcv, e, q⟩ := h
  obtain ⟨x1, x2, rfl, r1, r2⟩ := vals2 r
  cases r1
  cases hcv _ r2
  obtain ⟨vs, hv⟩ := hf
  obtain ⟨z1, z2⟩ := hz
  have J : PySem.W.InstAt s.heap p.1 p.2 D none := ⟨(I.pin p (List.mem_append_left _ hp)).1, z1, by unfold PySem.W.notCls; rw [hv] <;> rfl, by rw [z2]; trivial⟩
  exact PySem.W.kia_one (PySem.W.handS_kitx_exc C.hg C.hk C.hs C.hd C.ha C.hn C.ht C.hm) I.kIn J e (fun z => nomatch z) fun tk => ⟨.bl b, H, I.kept (t' := tk) fun _ _ z => z, rfl, q⟩
section
variable {X : Cx} {ct : Ct} {D c : Addr} {pn : Addr × Obj} {e : Expr} {x : Str} {p p2 pos : Pos} {i : Nat} {b : Bool}
theorem pe_xOwn (C : ExcC X.K D) (hp : pn ∈ X.pn) (hz : Zc (.ref D) none pn.2) (hf : ∃ vs, pn.2.data = .fields vs) (hI : X.mg "isinstance" = none) (hm : X.mg x = some (.ref c)) (k : PySem.W.kitOne X.K (.ref D) (.ref c) = some b) (he : PE X e (tVar i)) (hgI : Gl X "isinstance") (hg : Gl X x) (hd : (x == ("__debug__" : Str)) = false := by decide)
    (h1 : starEach [e, .Name x p2] X.env = (false, eval e X.env) :: starEach [.Name x p2] X.env := by rfl) (h2 : starEach [.Name x p2] X.env = (false, eval (.Name x p2) X.env) :: starEach [] X.env := by rfl) (hpl : (backTo pos (starEach [.Name x p2] X.env)).any (·.1) = false := by rfl) :
    PE X (.Call (.Name "isinstance" p) [e, .Name x p2] [] pos) (tEb i pn.1 b) := PE.imp (pe_callB (call_isX C hp hz hf) hgI hI (by decide +kernel) (pa_cons he (pa_cons (pe_glob (v := .ref c) hg hm rfl hd) pa_nil h2) h1) (by decide) (by decide) h1 hpl) fun σ H Q h => ⟨_, h.1, .ref c, .ref c, b, rfl, fun _ r => r, k, h.2⟩
theorem pe_xVal (C : ExcC X.K D) (hp : pn ∈ X.pn) (hz : Zc (.ref D) none pn.2) (hf : ∃ vs, pn.2.data = .fields vs) (hI : X.mg "isinstance" = none) (hm : X.mg "ValueError" = none) (k : PySem.W.kitOne X.K (.ref D) (.type "ValueError") = some b) (he : PE X e (tVar i)) (hgI : Gl X "isinstance") (hg : Gl X "ValueError")
    (h1 : starEach [e, .Name "ValueError" p2] X.env = (false, eval e X.env) :: starEach [.Name "ValueError" p2] X.env := by rfl) (h2 : starEach [.Name "ValueError" p2] X.env = (false, eval (.Name "ValueError" p2) X.env) :: starEach [] X.env := by rfl) (hpl : (backTo pos (starEach [.Name "ValueError" p2] X.env)).any (·.1) = false := by rfl) :
    PE X (.Call (.Name "isinstance" p) [e, .Name "ValueError" p2] [] pos) (tEb i pn.1 b) := PE.imp (pe_callB (call_isX C hp hz hf) hgI hI (by decide +kernel) (pa_cons he (pa_cons (pe_bltn (v := .ty "ValueError") hg hm (by decide +kernel) rfl) pa_nil h2) h1) (by decide) (by decide) h1 hpl) fun σ H Q h => ⟨_, h.1, .ty "ValueError", .type "ValueError", b, rfl, fun _ r => r, k, h.2⟩
end
/-! ### such a def -/
abbrev SpE := Addr × Obj → List V → Hp → VK → Prop
structure FnE (P : Program) (w : World) (K : PySem.W.Frag) (mg : Str → Option Value) (base : Heap) (k : Nat) (f : Addr) (fd : FuncData) (ps : List Str) (sp : SpE) : Prop where
  run : ∀ (A : Around) (outer : List Env) (s : Shared) (H : Hp) (args : Args) (us : List Value) (vs : List V) (Q : VK) (p : Addr × Obj), L2H.RoomH k A → L2H.PinOk outer H s p → Env0 P w K mg base A outer s H → BindsTo s fd args (ps.zip us) → Vals vs us → vs.length = ps.length → sp p vs H Q →
    codeAny (model P w) A (.call (.ref f) args) (CR L2.CX0 outer P w H s Q L2.E0) s
abbrev cxE (P : Program) (w : World) (K : PySem.W.Frag) (mg : Str → Option Value) (base : Heap) (N : List Str) (x : Str) (st : Stmt) (f : Addr) (cdv : Value) (A : Around) (outer : List Env) (s : Shared) (H : Hp) (p : Addr × Obj) : Cx := L2H.cxH L2.CX0 P w K mg base N x (defScope st) f cdv A outer s H L2.E0 p
theorem def_E {P : Program} {w : World} {K : PySem.W.Frag} {mg : Str → Option Value} {base : Heap} {x : Str} {st : Stmt} {f : Addr} {fd : FuncData} {N ps : List Str} {k : Nat} {sp : SpE} (F : FunG K x st f fd) (S : FnScope N ps (defScope st))
    (body : ∀ (cdv : Value) (A : Around) (outer : List Env) (s : Shared) (H : Hp) (vs : List V) (Q : VK) (p : Addr × Obj), sp p vs H Q → ∃ t, PSs (cxE P w K mg base N x st f cdv A outer s H p) (defBody st) t ∧ t { nx := fun _ H' => Q .non H', rt := Q } (L2.start N vs) H) : FnE P w K mg base (k + 1) f fd ps sp := by
  obtain ⟨oc, od, dV, kV, doc, pm, an, cdv, ctx, osl, rfl, lk, hcd, _, _⟩ := F.ex
  refine ⟨fun A outer s H args us vs Q p hr hpin e0 hb r hl hsp => ?_⟩
  have sub : ∀ b o, base.get? b = some o → s.heap.get? b = some o := fun b o e => (e0.bs b o e).1
  refine codeAny_call_function hr.depth (e0.mod.kin.keeps sub _ _ lk) rfl S.co S.gen rfl (PySem.W.codeRec_of (e0.mod.kin.keeps sub) hcd) (hb _ _ _ _ (wpAny_newFunctionEnv_cells S.kind (fun y hy => ?_) fun env he s1 z => ?_))
  · rcases S.par y.1 (List.of_mem_zip (a := y.1) (b := y.2) hy).1 with q | q
    · exact .inl q
    · exact .inr ⟨q, PySem.W.cellsFrom_some _ _ _ (.inl q)⟩
  · subst he
    obtain ⟨t, ht, hq⟩ := body cdv A outer s H vs Q p hsp
    refine ⟨(e0.mod.nolimit.keeps sub).keeps z.toInCall.keep, codeAny_func (wpAny_mono (ht.run [] s1 (L2.start N vs) H _ (L2H.inv_startH S hpin e0 hl r z) hq) (fun fl s' hs => ?_) fun e s' hs => hs)⟩
    cases fl with
    | ret u =>
      obtain ⟨v, σ', H', J, rv, q⟩ := hs
      exact ⟨v, H', J.os, J.bare, J.base, J.hok, rv, q⟩
    | next =>
      obtain ⟨σ', H', J, q⟩ := hs
      exact ⟨.non, H', J.os, J.bare, J.base, J.hok, rfl, q⟩
    | brk =>
      obtain ⟨_, _, _, q⟩ := hs
      exact q.elim
    | cont =>
      obtain ⟨_, _, _, q⟩ := hs
      exact q.elim
/-- the call, in a suite -/
theorem pe_callE {X : Cx} {k : Nat} {f : Addr} {fd : FuncData} {ps : List Str} {sp : SpE} {x : Str} {q pos : Pos} {e : Expr} {es : List Expr} {t : TA} {p : Addr × Obj} (F : FnE X.prog X.w X.K X.mg X.base k f fd ps sp) (hp : p ∈ X.pn) (hr : L2H.RoomH k X.A) (hg : Gl X x) (hm : X.mg x = some (.ref f)) (hk : PySem.W.keepIn X.K (.ref f) = true) (hb : Binds X.K fd ps [])
    (ha : PA X (e :: es) t) (hdb : (x == ("__debug__" : Str)) = false := by decide) (he : starEach (e :: es) X.env = (false, eval e X.env) :: starEach es X.env := by rfl) (hpl : (backTo pos (starEach es X.env)).any (·.1) = false := by rfl) :
    PE X (.Call (.Name x q) (e :: es) [] pos) (fun σ H Q => t σ H fun vs H1 => vs.length = ps.length ∧ sp p vs H1 Q) := by
  refine ⟨fun pins s σ H Q I h => wpAny_Call_Name_kw (ld_glob I hg hm (PySem.W.callWith_K (h₀ := X.base) I.ok.mod.kin hk (thn (ha.run pos pins s σ H _ I h) fun us s1 ⟨vs, H1, I1, r, hl, w⟩ => ⟨I1.kIn, ?_⟩) he hpl) hdb)⟩
  have P1 := I1.pin p (List.mem_append_left _ hp)
  have b := hb s1 us I1.kIn (by rw [List.append_nil, ← r.length]; exact hl)
  rw [List.append_nil] at b
  refine wpAny_call (codeAny_mono (F.run X.A X.stack s1 H1 ⟨us, []⟩ us vs Q p hr ⟨P1.1, P1.2.1, fun hm => (List.mem_cons.mp (I1.stkSub p.1 hm)).elim P1.2.2.1 P1.2.2.2.1, P1.2.2.2.2⟩ I1.env0 b r hl w) fun r s' hq => ?_)
  cases r with
  | error e => exact hq.elim
  | ok fl =>
    cases fl with
    | ret u => exact I1.after hq
    | next => exact hq.elim
    | brk => exact hq.elim
    | cont => exact hq.elim
end G
namespace G
open L2 PySem PySem.Spec PyProof.Rows
/-! ### the law's word for an error -/
def X4.word : X4 → Str
  | .lines => PySem.Str.ofString "lines"
  | .thing => PySem.Str.ofString "thing"
  | .kind => PySem.Str.ofString "kind"
  | .nonet => PySem.Str.ofString "none"
def spW (K : PySem.W.Frag) (ct : Ct) : SpE := fun p vs H Q => ∃ y : X4, vs = [.ref p.1] ∧ Zc (.ref (ct.at4 y)) none p.2 ∧ (∃ fs, p.2.data = .fields fs) ∧ ∀ l H', H l = none → Ext H H' → H' l = some (.lst [.str y.word]) → Q (.ref l) H'
def DpE (P : Program) (w : World) (K : PySem.W.Frag) (mg : Str → Option Value) (base : Heap) (ct : Ct) (k : Nat) : Prop := ∃ fa fd, mg "_law_word" = some (.ref fa) ∧ PySem.W.keepIn K (.ref fa) = true ∧ L2.Binds K fd ["_law_e"] [] ∧ FnE P w K mg base k fa fd ["_law_e"] (spW K ct)
def wordD : Exn → Option D
  | .lines => some (.lst [.str (PySem.Str.ofString "lines")])
  | .thing => some (.lst [.str (PySem.Str.ofString "thing")])
  | .kind => some (.lst [.str (PySem.Str.ofString "kind")])
  | .nonet => some (.lst [.str (PySem.Str.ofString "none")])
  | .net _ => none
theorem wordD4 (y : X4) : wordD y.e = some (.lst [.str y.word]) := by cases y <;> rfl
/-- try: body, except NetError as e: return _law_word(e) -/
def sTryW (i : Nat) (body : En → M Fl) : En → M Fl := fun env cs => if i < env.length then (match body env cs with
  | .ok f cs' => .ok f cs'
  | .ex x cs' => (match wordD x with
    | some d => .ok (.rt d) cs'
    | none => .no)
  | .no => .no) else .no
theorem gs_tryW {X : Cx} {ct : Ct} {W : WX} {ne : Addr} {i k j : Nat} {n : Str} {mb : En → M Fl} {body : List Stmt} {np pos pos' p1 p2 p3 p4 : Pos} (T : Xt X.K X.mg ct ne) (hs : X.stack = X.env :: X.outer) (hf : X.env.frame = some X.env.locals) (hN : X.N.Nodup) (hi : X.N[i]? = some n) (hln : X.env.kindOf n = some .local) (hg : Gl X "NetError") (tk : Takes X W)
    (hr : Room k X.A) (hj : j ≤ k) (Wd : DpE X.prog X.w X.K X.mg X.base ct j) (hgw : Gl X "_law_word") (hv : ∀ (a : Addr) (pn : List (Addr × Obj)), PE (X.suite a pn) (.Name n p3) (tVar i)) (hst : starEach [.Name n p3] X.env = (false, eval (.Name n p3) X.env) :: starEach [] X.env)
    (hb : ∀ (W : WX) (pn : List (Addr × Obj)) (xe : Value → Shared → Prop), Takes (X.tr pn xe) W → PassesOwn (model X.prog X.w) X.A X.env xe → PSs (X.tr pn xe) body (tS X.K ct W mb)) :
    PS X (.Try body [.ExceptHandler (some (.Name "NetError" np)) (some n) [.Return (some (.Call (.Name "_law_word" p1) [.Name n p3] [] p4)) p2] pos'] [] [] pos) (tS X.K ct W (sTryW i mb)) := by
  obtain ⟨fa, fd, hm, hk, hbd, Fn⟩ := Wd
  refine PS.imp (ps_try_as (i := i) (c := .ref ne) (Wout := W) (ts := fun a cls d => fun E σ H => ∃ y : X4, cls = .ref (ct.at4 y) ∧ d = none ∧ σ[i]? = some (some (.ref a)) ∧ ∀ l H', H l = none → Ext H H' → H' l = some (.lst [.str y.word]) → E.rt (.ref l) H') hs hf hN hi hln ⟨hg, by decide, .inl T.mgE⟩ tk hb fun a oe cls d pn hz hfl => ?_) ?_
  · refine PSs.imp (pss_one (ps_ret (pe_callE (p := (a, oe)) (ps := ["_law_e"]) (X := X.suite a ((a, oe) :: pn)) Fn List.mem_cons_self ⟨(hr.mono hj).dp, (hr.mono hj).un⟩ hgw hm hk hbd (pa_cons (hv a _) pa_nil hst) (by decide) hst rfl))) ?_
    rintro E σ H ⟨y, rfl, rfl, h1, h2⟩
    exact ⟨_, h1, rfl, y, rfl, hz, hfl, h2⟩
  · rintro E σ H ⟨F, as, env, cs, ok, sl, h⟩
    refine ⟨F, as, env, cs, ok, sl, ?_⟩
    unfold sTryW at h
    split at h
    · rename_i hi0
      cases q : mb env cs with
      | no =>
        rw [q] at h
        exact h
      | ok f cs2 =>
        rw [q] at h
        exact h
      | ex x cs2 =>
        rw [q] at h
        intro c d σ' F1 H1 as1 hl g1 ok1 hx
        have main : ∀ y : X4, x = y.e → wAs X.K (.ref ne) i (fun a cls d => fun E σ H => ∃ y : X4, cls = .ref (ct.at4 y) ∧ d = none ∧ σ[i]? = some (some (.ref a)) ∧ ∀ l H', H l = none → Ext H H' → H' l = some (.lst [.str y.word]) → E.rt (.ref l) H') W E c d σ' H1 := fun y hy => by
          subst hy
          have ec : c = .ref (ct.at4 y) ∧ d = none := by cases y <;> exact hx
          obtain ⟨rfl, rfl⟩ := ec
          refine ⟨true, T.em y, fun _ a _ => ?_, fun z => nomatch z⟩
          have h3 : out X.K ct W σ.length F H as (match wordD y.e with
            | some d => Rs.ok (Fl.rt d) cs2
            | none => .no) (oS X.K σ.length E) := h
          rw [wordD4] at h3
          refine ⟨y, rfl, rfl, by rw [List.getElem?_set_self (by rw [hl, sl.len]; exact hi0)], fun l H' hn he hH => ?_⟩
          have g2 : Gro F1 H1 as1 (upd F1 l (.lst [.str y.word])) H' as1 := ⟨Ext.new (ok1.fnone hn), fun q hq => upd_ne fun e => hq (by rw [e]; exact hn), fun q o hq _ => he q o hq, fun q hq => by
            cases q2 : H1 q with
            | none => exact absurd q2 hq
            | some o =>
              rw [he q o q2]
              exact (fun z => nomatch z), List.prefix_rfl, fun _ m => .inl m⟩
          have ok2 : Ok X.K (upd F1 l (.lst [.str y.word])) H' as1 cs2 := ⟨fun b o e => by
            by_cases q : b = l
            · rw [q, upd_same] at e
              cases e
              rw [q]
              exact hH
            · rw [upd_ne q] at e
              exact he b o (ok1.fh b o e), ok1.nd, ok1.len, fun j a xs ha hxs => by
              obtain ⟨w1, ys, w2, w3⟩ := ok1.cell j a xs ha hxs
              exact ⟨by rw [upd_ne fun e => ok1.out hn (by rw [← e]; exact List.mem_of_getElem? ha)]; exact w1, ys, he a _ w2, w3.mono (Ext.new (ok1.fnone hn)) List.prefix_rfl⟩⟩
          exact h3 _ H' as1 (g1.trans g2) ok2 _ (.lst upd_same (.cons (.str _) .nil))
        cases x with
        | lines => exact main .lines rfl
        | thing => exact main .thing rfl
        | kind => exact main .kind rfl
        | nonet => exact main .nonet rfl
        | net o => exact False.elim h
    · exact False.elim h
end G
namespace G
open L2 PySem PySem.Spec PyProof.Rows
def wordsV : List V := [.str (PySem.Str.ofString "kind"), .str (PySem.Str.ofString "thing"), .str (PySem.Str.ofString "lines"), .str (PySem.Str.ofString "net"), .str (PySem.Str.ofString "none")]
/-- what the word's def does with an error of y's class -/
def tWord (K : PySem.W.Frag) (a : Addr) (y : X4) : TS :=
  tSeq (tAsg (tLst (tCons (tEb 0 a (y.eqb .kind)) (tCons (tEb 0 a (y.eqb .thing)) (tCons (tEb 0 a (y.eqb .lines)) (tCons (tEb 0 a false) tNil))))) (gName 1))
    (tSeq (tDrop (tBM K "list" rAppend (tVar 1) (tCons (tEb 0 a (y.eqb .nonet)) tNil)))
      (tSeq (tIfS (tOr (tTest (tOp rNe (tBM K "list" (rCntF K) (tVar 1) (tCons (tC (V.bl true)) tNil)) (tC (V.int 1)))) (tNot (tB (tEb 0 a true)))) (tRet (tLst (tCons (tC (V.str (PySem.Str.ofString "other"))) tNil))) tNext)
        (tRet (tLst (tCons (tOp (rIx K) (tLst (tCons (tC (.str (PySem.Str.ofString "kind"))) (tCons (tC (.str (PySem.Str.ofString "thing"))) (tCons (tC (.str (PySem.Str.ofString "lines"))) (tCons (tC (.str (PySem.Str.ofString "net"))) (tCons (tC (.str (PySem.Str.ofString "none"))) tNil)))))) (tBM K "list" (rIndex K) (tVar 1) (tCons (tC (V.bl true)) tNil))) tNil)))))
def X4.at5 : X4 → Nat
  | .kind => 0
  | .thing => 1
  | .lines => 2
  | .nonet => 4
theorem word_wish {K : PySem.W.Frag} {a : Addr} {y : X4} {H : Hp} {Q : VK} (hq : ∀ l H', H l = none → Ext H H' → H' l = some (.lst [.str y.word]) → Q (.ref l) H') : tWord K a y { nx := fun _ H' => Q .non H', rt := Q } (L2.start ["_law_e", "_law_mine"] [.ref a]) H := by
  refine ⟨rfl, rfl, rfl, rfl, (by decide : 4 ≤ sizeLine), fun l hl => ?_⟩
  refine ⟨.ref l, rfl, .inl ⟨rfl, _, SqL.of upd_same⟩, rfl, l, _, _, rfl, rfl, upd_same, (by decide : 4 < sizeLine), ?_⟩
  refine ⟨.ref l, rfl, .inl ⟨rfl, _, SqL.of upd_same⟩, l, _, .bl true, rfl, rfl, SqL.of upd_same, rfl, by cases y <;> rfl, by cases y <;> rfl, false, by cases y <;> rfl, ?_⟩
  refine (if_neg Bool.false_ne_true).mpr ?_
  refine ⟨rfl, true, rfl, ?_⟩
  refine (if_neg Bool.false_ne_true).mpr ?_
  refine ⟨by decide, fun l2 hl2 => ?_⟩
  have n12 : l ≠ l2 := fun e => by
    rw [← e, upd_same] at hl2
    cases hl2
  refine ⟨.ref l, rfl, .inl ⟨rfl, _, SqL.of (by rw [upd_ne n12]; exact upd_same)⟩, l, _, .bl true, y.at5, .bl true, rfl, rfl, SqL.of (by rw [upd_ne n12]; exact upd_same), rfl, by cases y <;> rfl, by cases y <;> rfl, rfl, ?_, ?_⟩
  · intro m z hm hz
    cases y with
    | kind => exact absurd hm (by simp [X4.at5])
    | thing => match m, hm, hz with
      | 0, _, hz => cases hz; rfl
    | lines => match m, hm, hz with
      | 0, _, hz => cases hz; rfl
      | 1, _, hz => cases hz; rfl
    | nonet => match m, hm, hz with
      | 0, _, hz => cases hz; rfl
      | 1, _, hz => cases hz; rfl
      | 2, _, hz => cases hz; rfl
      | 3, _, hz => cases hz; rfl
  · refine .inl ⟨l2, wordsV, _, .str y.word, rfl, rfl, SqL.of upd_same, by cases y <;> rfl, ?_⟩
    refine ⟨(by decide : 1 ≤ sizeLine), fun l3 hl3 => hq l3 _ ?_ ?_ upd_same⟩
    · have n23 : l3 ≠ l2 := fun e => by
        rw [e, upd_same] at hl3
        cases hl3
      rw [upd_ne n23] at hl3
      have n13 : l3 ≠ l := fun e => by
        rw [e, upd_same] at hl3
        cases hl3
      rw [upd_ne n13, upd_ne n13] at hl3
      exact hl3
    · intro b o hb
      have nb : b ≠ l := ne_of_none hb hl
      have hl2' : H l2 = none := by
        rw [upd_ne (Ne.symm n12), upd_ne (Ne.symm n12)] at hl2
        exact hl2
      have nb2 : b ≠ l2 := ne_of_none hb hl2'
      have n3 : b ≠ l3 := fun e => by
        rw [← e, upd_ne nb2, upd_ne nb, upd_ne nb, hb] at hl3
        cases hl3
      rw [upd_ne n3, upd_ne nb2, upd_ne nb, upd_ne nb]
      exact hb
end G
/-! G10: more words: tuple * int at 0 and 1, text * int, {}, not in a table, min with a default, three comparisons. -/
namespace G
open L2 PySem PySem.Spec PyProof.Rows
theorem tup_mul1 (l : Addr) (items : Array Value) (n : Nat) (dd : Option Addr) (sl : Array (Option Value)) (u : Tok) :
    Meets (Builtin.«tuple.__mul__» ⟨[.ref l, .int 1 u], []⟩) (fun _ R s => s.heap.get? l = some { cls := .type "tuple", dict := dd, data := .seq items n, slots := sl } ∧ R (.ok (.ret (Value.ref l))) s) :=
  .of_wp fun prog w A R s h => by
    obtain ⟨hp, g, d, tk, os⟩ := s
    obtain ⟨hl, h⟩ := h
    have f1 := AutoSeq1.idx_int
    wp_walk using wpAny_loadPart' hl
    exact ⟨_, rfl, h⟩
theorem tup_mul0 (l : Addr) (items : Array Value) (n : Nat) (dd : Option Addr) (sl : Array (Option Value)) (x : Int) (u : Tok) (c0 : (decide (x < -(2 ^ 63)) || decide (x ≥ 2 ^ 63)) = false) (c1 : (items.isEmpty || x == 1) = false) (c2 : (decide (x ≤ 0) || items.isEmpty) = true) :
    Meets (Builtin.«tuple.__mul__» ⟨[.ref l, .int x u], []⟩) (fun _ R s => s.heap.get? l = some { cls := .type "tuple", dict := dd, data := .seq items n, slots := sl } ∧
      R (.ok (.ret (Value.ref s.heap.objs.size))) { s with heap := s.heap.push { cls := Value.type "tuple", data := Data.seq #[] }, toks := s.toks }) :=
  .of_wp fun prog w A R s h => by
    obtain ⟨hp, g, d, tk, os⟩ := s
    obtain ⟨hl, h⟩ := h
    have f1 := AutoSeq1.idx_int
    wp_walk using wpAny_loadPart' hl
    repeat (first
      | (refine wpAny_ite_false (decide_eq_false (by rw [c0]; exact Bool.false_ne_true)) ?_; wp_walk using wpAny_loadPart' hl)
      | (refine wpAny_ite_false (decide_eq_false (by rw [c1]; exact Bool.false_ne_true)) ?_; wp_walk using wpAny_loadPart' hl)
      | (refine wpAny_ite_true (decide_eq_true c2) ?_; wp_walk using wpAny_loadPart' hl))
    exact ⟨_, rfl, h⟩
def rRep01 (K : PySem.W.Frag) : R2 := fun x y H Q => ∃ l k xs, x = .ref l ∧ y = .int k ∧ SqT K H l xs ∧ xs ≠ [] ∧ (k = 0 ∨ k = 1) ∧ (k = 1 → Q (.ref l) H) ∧ (k = 0 → ∀ p, H p = none → Q (.ref p) (upd H p (.tup [])))
theorem op_rep01 {X : Cx} : OpR X (binaryOp .Mult) (rRep01 X.K) := fun pins s σ H x y v u Q I rx ry h => by
  obtain ⟨l, k, xs, rfl, rfl, hT, hne, hk, q1, q0⟩ := h
  cases rx
  obtain ⟨t, rfl⟩ := ry
  obtain ⟨its, r, ⟨⟨cls, dd, data, sl⟩, ho, hc, n, hd⟩, _⟩ := I.tuple hT
  simp only at hc hd
  subst hc hd
  have hi : its.toArray.isEmpty = false := by
    cases r with
    | nil => exact absurd rfl hne
    | cons a b => rfl
  rcases hk with rfl | rfl
  · refine wpAny_binaryOp_repeat_ref (T := "tuple") (U := "int") (by decide) ⟨_, ho, rfl⟩ (fun s' => typeIs_int s' 0 t) noFill_tuple_mul F.fills_int_mul F.slot_int_rmul repeat_tuple F.slot_int_index.lookup
      (call_meets F.slot_int_rmul (typeIs_int s 0 t) F.entry_int_rmul (F.args_int_rmul_2 _ _) (int_rmul_tuple 0 t l its.toArray n dd sl)
        ⟨ho, rfl, ⟨_, ho, rfl⟩, call_meets F.slot_tuple_mul ⟨_, ho, rfl⟩ F.entry_tuple_mul (F.args_tuple_mul_2 _ _) (tup_mul0 l its.toArray n dd sl 0 t (by decide) (by rw [hi]; rfl) rfl) ⟨ho, ?_⟩⟩)
    exact ⟨.ref s.heap.objs.size, _, I.laid (t' := s.toks) (o := .tup []) (fun b ob q => Heap.get?_push_of_some _ q) (Nat.le_refl _) ⟨Nat.zero_le _, [], .nil, IsTup.new _ _⟩, rfl, q0 rfl _ (I.hok.fresh (Nat.le_refl _))⟩
  · refine wpAny_binaryOp_repeat_ref (T := "tuple") (U := "int") (by decide) ⟨_, ho, rfl⟩ (fun s' => typeIs_int s' 1 t) noFill_tuple_mul F.fills_int_mul F.slot_int_rmul repeat_tuple F.slot_int_index.lookup
      (call_meets F.slot_int_rmul (typeIs_int s 1 t) F.entry_int_rmul (F.args_int_rmul_2 _ _) (int_rmul_tuple 1 t l its.toArray n dd sl)
        ⟨ho, rfl, ⟨_, ho, rfl⟩, call_meets F.slot_tuple_mul ⟨_, ho, rfl⟩ F.entry_tuple_mul (F.args_tuple_mul_2 _ _) (tup_mul1 l its.toArray n dd sl t) ⟨ho, ?_⟩⟩)
    exact ⟨.ref l, H, I.tok _, rfl, q1 rfl⟩
end G
namespace G
open L2 PySem PySem.Spec PyProof.Rows
/-! ### text * int -/
def repS (x : Str) (n : Nat) : Str := ⟨(List.replicate n x.cps).foldl (· ++ ·) #[]⟩
theorem fold_size (a : Array Nat) : ∀ (n : Nat) (b : Array Nat), ((List.replicate n a).foldl (· ++ ·) b).size = b.size + n * a.size
  | 0, b => by simp
  | n + 1, b => by
    rw [List.replicate_succ, List.foldl_cons, fold_size a n, Array.size_append, Nat.succ_mul]
    omega
theorem repS_len (x : Str) (n : Nat) : (repS x n).length = n * x.length := by
  show ((List.replicate n x.cps).foldl (· ++ ·) #[]).size = n * x.cps.size
  rw [fold_size]
  simp
def rRepS : R2 := fun x y H Q => ∃ z k, x = .str z ∧ y = .int k ∧ z.length = 1 ∧ 2 ≤ k ∧ k ≤ 100000 ∧ Q (.str (repS z k.toNat)) H
theorem op_repS {X : Cx} : OpR X (binaryOp .Mult) rRepS := fun pins s σ H x y v u Q I rx ry h => by
  obtain ⟨z, k, rfl, rfl, hz, h1, h2, q⟩ := h
  obtain ⟨t, rfl⟩ := rx
  obtain ⟨t2, rfl⟩ := ry
  have e1 : (k == 1 || z.length == 0) = false := by
    rw [hz, beq_eq_false_iff_ne.mpr (show k ≠ 1 by omega)]
    rfl
  refine PySem.P.mul_str (by rw [decide_eq_false (by omega), decide_eq_false (by omega)]; rfl) (fun _ _ => ?_) (fun _ _ => ?_) ?_
  · rw [hz]
    have : (1 : Int) ≤ (2 ^ 63 - 1) / k := Int.le_ediv_of_mul_le (by omega) (by omega)
    show ¬ ((1 : Nat) : Int) > _
    omega
  · unfold Builtin.Str.tooLong
    rw [hz, sizeLine_eq]
    exact decide_eq_false (by omega)
  · rw [if_neg (by omega), if_neg (by rw [e1]; exact Bool.false_ne_true)]
    refine ⟨?_, .str (repS z k.toNat), H, I.tok _, ⟨s.toks, rfl⟩, q⟩
    show (repS z k.toNat).length ≤ sizeLine
    rw [repS_len, hz, sizeLine_eq]
    omega
/-! ### * -/
def opMulX (c : Bool) : D → D → M D
  | .tup xs, .int k => if (!xs.isEmpty && (decide (xs.length ≤ 1000) && decide (0 ≤ k ∧ k ≤ 1000))) = true then M.ret (.tup (List.replicate k.toNat xs).flatten) else M.no
  | .str x, .int k => if (decide (x.length = 1) && decide (2 ≤ k ∧ k ≤ 100000)) = true then M.ret (.str (repS x k.toNat)) else M.no
  | d, e => opMul c d e
def rMulX (K : PySem.W.Frag) : R2 := fun x y H Q => rMulA x y H Q ∨ (fun x y H Q => rRepT K x y H Q ∨ (fun x y H Q => rRep01 K x y H Q ∨ rRepS x y H Q) x y H Q) x y H Q
theorem op_mulX {X : Cx} : OpR X (binaryOp .Mult) (rMulX X.K) := OpR.or op_mulA (OpR.or op_repT (OpR.or op_rep01 op_repS))
theorem od_mulX {K : PySem.W.Frag} {ct : Ct} (c : Bool) : OpD K ct (rMulX K) (opMulX c) := fun W n F H as cs x y d e Q ok hx hy h => by
  unfold opMulX at h
  split at h
  · split at h
    · rename_i xs k q
      cases hy
      cases hx with
      | tup t l =>
        obtain ⟨q1, q2⟩ := Bool.and_eq_true_iff.mp q
        obtain ⟨q3, q4⟩ := Bool.and_eq_true_iff.mp q2
        have q3 := of_decide_eq_true q3
        obtain ⟨k0, k1⟩ := of_decide_eq_true q4
        have hne : xs ≠ [] := fun e => by
          rw [e] at q1
          cases q1
        have hne2 : ¬ (_ : List V) = [] := fun e => hne (l.nil_iff.mp e)
        by_cases h2 : 2 ≤ k
        · exact .inr (.inl ⟨_, _, _, rfl, rfl, SqT.of (ok.fh _ _ t), hne2, h2, k1, by rw [l.length]; exact q3, new_tup ok l.flat h⟩)
        · refine .inr (.inr (.inl ⟨_, _, _, rfl, rfl, SqT.of (ok.fh _ _ t), hne2, by omega, fun e => ?_, fun e p hp => ?_⟩))
          · subst e
            have e2 : (List.replicate (1 : Int).toNat xs).flatten = xs := by simp
            rw [e2] at h
            exact end_ok ok (.tup t l) h
          · subst e
            exact new_tup ok .nil h p hp
    · exact False.elim h
  · split at h
    · rename_i z k q
      cases hx
      cases hy
      obtain ⟨q1, q2⟩ := Bool.and_eq_true_iff.mp q
      obtain ⟨k0, k1⟩ := of_decide_eq_true q2
      exact .inr (.inr (.inr ⟨_, _, rfl, rfl, of_decide_eq_true q1, k0, k1, end_ok ok (.str _) h⟩))
    · exact False.elim h
  · exact .inl (od_mul c W n F H as cs x y _ _ Q ok hx hy h)
/-! ### {} -/
section
variable {X : Cx} {ct : Ct} {W : WX} {a : Expr} {ma : En → M D} {pos p : Pos}
theorem ge_dic : PE X (.Dict [] [] pos) (tD X.K ct W (xC .dic)) := PE.imp pe_dnewK (by
  rintro σ H Q ⟨F, as, env, cs, ok, sl, h⟩ l hl
  exact h _ _ as (gro_new _ ok hl) (ok_new _ ok hl) _ (.dic upd_same))
/-! ### not in a table of texts -/
def opNotK (ks : List Str) : D → M D := fun d => match flatV? d with
  | some v => M.ret (.bl (!inV v (ks.map V.str)))
  | none => M.no
theorem all_flat : ∀ ks : List Str, (ks.map V.str).all flatV = true
  | [] => rfl
  | _ :: r => by
    rw [List.map_cons, List.all_cons, all_flat r]
    rfl
theorem notK_of {K : PySem.W.Frag} {ks : List Str} {t : Addr} (hT : ∀ H, SqT K H t (ks.map V.str)) {σ : L2.St} {H : Hp} {Q : VK} (h : tD K ct W (xUn (opNotK ks) ma) σ H Q) : tOp (rIn K true) (tD K ct W ma) (tC (.ref t)) σ H Q := by
  obtain ⟨F, as, env, cs, ok, sl, h⟩ := h
  refine ⟨F, as, env, cs, ok, sl, out_imp (out_bnd h) fun d cs1 F1 H1 as1 g ok1 h1 v hv => ?_⟩
  unfold opNotK at h1
  cases e : flatV? d with
  | some u =>
    rw [e] at h1
    obtain ⟨rfl, f⟩ := flatV_eq hv e
    exact ⟨t, _, rfl, .inr (hT H1), f, all_flat ks, end_ok ok1 (.bl _) h1⟩
  | none =>
    rw [e] at h1
    exact False.elim h1
theorem ge_notKind {ks : List Str} {x : Str} (hm : ∃ t, X.mg x = some (.ref t) ∧ ∀ H, SqT X.K H t (ks.map V.str)) (hg : Gl X x) (ha : PE X a (tD X.K ct W ma)) (hd : (x == ("__debug__" : Str)) = false := by decide) (hb : behindInMarks .NotIn (.Name x p) = false := by rfl) :
    PE X (.Compare a [.NotIn] [.Name x p] pos) (tD X.K ct W (xUn (opNotK ks) ma)) := by
  obtain ⟨t, hm, hT⟩ := hm
  exact PE.imp (pe_cmpR op_notIn_seq ha (pe_glob (v := .ref t) hg hm rfl hd) hb) fun _ _ _ => notK_of hT
theorem gt_notKind {ks : List Str} {x : Str} (hm : ∃ t, X.mg x = some (.ref t) ∧ ∀ H, SqT X.K H t (ks.map V.str)) (hg : Gl X x) (ha : PE X a (tD X.K ct W ma)) (hd : (x == ("__debug__" : Str)) = false := by decide) (hb : behindInMarks .NotIn (.Name x p) = false := by rfl) :
    PT X (.Compare a [.NotIn] [.Name x p] pos) (tT X.K ct W (bVal (xUn (opNotK ks) ma))) := by
  obtain ⟨t, hm, hT⟩ := hm
  exact PT.imp (pt_cmpR op_notIn_seq ha (pe_glob (v := .ref t) hg hm rfl hd) hb) fun _ _ _ h => notK_of hT (bv_of h)
end
end G
namespace LK
open L2 G PySem PySem.Spec PyProof.Rows
def top (i : Nat) : Stmt := PySem.Challenge.pw_beginnet_k01_joining.main.body.getD i (.Pass ⟨0, 0, 0, 0⟩)
structure X4c (K : PySem.W.Frag) (mg : Str → Option Value) (x : Str) (C : Addr) : Prop where
  exc : PySem.W.excIn K C He.veBase "ValueError.__new__" = true
  mg : mg x = some (.ref C)
  keep : PySem.W.keepIn K (.ref C) = true
  sub : PySem.W.subIn K (.ref C) (.type "BaseException") = some true
  ty : PySem.W.typeIn K (.ref C) = some (.type "type")
theorem X4c.raises {X : Cx} {x : Str} {C : Addr} (h : X4c X.K X.mg x C) : Raises X (.ref C) := raises_own h.sub h.ty
def kindsS : List Str := [PySem.Str.ofString "sum", PySem.Str.ofString "most", PySem.Str.ofString "text", PySem.Str.ofString "map", PySem.Str.ofString "step"]
structure Bt (K : PySem.W.Frag) (mg : Str → Option Value) (ct : Ct) : Prop where
  len : mg "len" = none
  isinstance : mg "isinstance" = none
  range : mg "range" = none
  int : mg "int" = none
  bool : mg "bool" = none
  str : mg "str" = none
  tuple : mg "tuple" = none
  list : mg "list" = none
  max : mg "max" = none
  min : mg "min" = none
  sum : mg "sum" = none
  all : mg "all" = none
  sorted : mg "sorted" = none
  reversed : mg "reversed" = none
  zip : mg "zip" = none
  abs : mg "abs" = none
  x_lines : X4c K mg "BadLines" ct.lines
  x_thing : X4c K mg "BadThing" ct.thing
  x_kind : X4c K mg "BadKind" ct.kind
  x_nonet : X4c K mg "NoNet" ct.nonet
  kinds : ∃ t, mg "KINDS" = some (.ref t) ∧ ∀ H, SqT K H t (kindsS.map V.str)
  c_FAR : ∃ t, mg "FAR" = some (.int 1000000000000 t)
  c_MOST_SIGNS : ∃ t, mg "MOST_SIGNS" = some (.int 1000 t)
  c_MOST_PLACES : ∃ t, mg "MOST_PLACES" = some (.int 8 t)
  c_RING : ∃ t, mg "RING" = some (.int 1000003 t)
  c_LETTERS : ∃ t, mg "LETTERS" = some (.str (PySem.Str.ofString "abcdefghijklmnopqrstuvwxyz") t)
section
variable {P : Program} {w : World} {K : PySem.W.Frag} {mg : Str → Option Value} {base : Heap} {ct : Ct} {ne : Addr}
abbrev s_is_whole : Stmt := top 14
theorem sc_is_whole : FnScope ["thing"] ["thing"] (defScope s_is_whole) := ⟨rfl, rfl, rfl, by decide +kernel, rfl, by decide +kernel, by decide +kernel⟩
structure D_is_whole (P : Program) (w : World) (K : PySem.W.Frag) (mg : Str → Option Value) (base : Heap) (ct : Ct) : Prop where
  u_ : True
def c_is_whole : En → M Fl := sRet (xAnd (xUn (opIs .int) (xVar 0)) (xNot (xUn (opIs .bool) (xVar 0))))
def f_is_whole : List D → Rp := runP c_is_whole 1
theorem d_is_whole (F : ∃ fa fd, mg "is_whole" = some (.ref fa) ∧ FunG K "is_whole" s_is_whole fa fd) (B : Bt K mg ct) (T : Xt K mg ct ne) (D : D_is_whole P w K mg base ct) : Dp' P w K mg base 2 "is_whole" ["thing"] (spP K ct 1 f_is_whole) := by
  obtain ⟨fa, fd, hm, F⟩ := F
  have nd := sc_is_whole.nd
  refine ⟨fa, fd, hm, F.kp, F.bindsN (fun _ _ _ _ _ _ us hl => match us, hl with | [_], _ => rfl), def_P (k := 1) F sc_is_whole rfl fun cdv A outer s H E hr => ?_⟩
  have tk := takes_of (X := cxG P w K mg base ["thing"] "is_whole" s_is_whole fa cdv A outer s H E) rfl rfl rfl rfl
  exact (gs_one (gs_ret (ge_and (ge_isi (T := .int) rfl B.isinstance rfl B.int (by decide +kernel) (ge_var (pv 0))) (ge_one (ge_not (ge_isi (T := .bool) rfl B.isinstance rfl B.bool (by decide +kernel) (ge_var (pv 0))))))))
abbrev s_is_among : Stmt := top 15
theorem sc_is_among : FnScope ["thing", "least", "most"] ["thing", "least", "most"] (defScope s_is_among) := ⟨rfl, rfl, rfl, by decide +kernel, rfl, by decide +kernel, by decide +kernel⟩
structure D_is_among (P : Program) (w : World) (K : PySem.W.Frag) (mg : Str → Option Value) (base : Heap) (ct : Ct) : Prop where
  is_whole : Dp' P w K mg base 2 "is_whole" ["thing"] (spP K ct 1 f_is_whole)
  u_ : True
def c_is_among : En → M Fl := sRet (xAnd (xCallP f_is_whole (aCons (xVar 0) (aNil))) (xChain opLe opLe (xVar 1) (xVar 0) (xVar 2)))
def f_is_among : List D → Rp := runP c_is_among 3
theorem d_is_among (F : ∃ fa fd, mg "is_among" = some (.ref fa) ∧ FunG K "is_among" s_is_among fa fd) (B : Bt K mg ct) (T : Xt K mg ct ne) (D : D_is_among P w K mg base ct) : Dp' P w K mg base 3 "is_among" ["thing", "least", "most"] (spP K ct 3 f_is_among) := by
  obtain ⟨fa, fd, hm, F⟩ := F
  have nd := sc_is_among.nd
  refine ⟨fa, fd, hm, F.kp, F.bindsN (fun _ _ _ _ _ _ us hl => match us, hl with | [_, _, _], _ => rfl), def_P (k := 2) F sc_is_among rfl fun cdv A outer s H E hr => ?_⟩
  have tk := takes_of (X := cxG P w K mg base ["thing", "least", "most"] "is_among" s_is_among fa cdv A outer s H E) rfl rfl rfl rfl
  exact (gs_one (gs_ret (ge_and (gc_P D.is_whole hr (by decide) tk rfl (an_cons an_nil) (ga_cons (ge_var (pv 0)) ga_nil)) (ge_one (ge_chain op_le od_le op_le od_le (ge_var (pv 1)) (ge_var (pv 0)) (ge_var (pv 2)))))))
abbrev s_is_text : Stmt := top 16
theorem sc_is_text : FnScope ["thing", "sign"] ["thing"] (defScope s_is_text) := ⟨rfl, rfl, rfl, by decide +kernel, rfl, by decide +kernel, by decide +kernel⟩
structure D_is_text (P : Program) (w : World) (K : PySem.W.Frag) (mg : Str → Option Value) (base : Heap) (ct : Ct) : Prop where
  u_ : True
def c_is_text : En → M Fl := sSeq (sIf (bOr (bNot (bVal (xUn (opIs .str) (xVar 0)))) (bVal (xBin opGt (xCall opLen (aCons (xVar 0) (aNil))) (xC (.int 1000))))) (sRet (xC (.bl false))) (sSkip)) (sSeq (sFor (itStr (xVar 0)) (.nm 1) (sIf (bVal (xBin opNotInS (xVar 1) (xC (.str (PySem.Str.ofString "abcdefghijklmnopqrstuvwxyz"))))) (sRet (xC (.bl false))) (sSkip))) (sRet (xC (.bl true))))
def f_is_text : List D → Rp := runP c_is_text 2
theorem d_is_text (F : ∃ fa fd, mg "is_text" = some (.ref fa) ∧ FunG K "is_text" s_is_text fa fd) (B : Bt K mg ct) (T : Xt K mg ct ne) (D : D_is_text P w K mg base ct) : Dp' P w K mg base 2 "is_text" ["thing"] (spP K ct 1 f_is_text) := by
  obtain ⟨fa, fd, hm, F⟩ := F
  have nd := sc_is_text.nd
  refine ⟨fa, fd, hm, F.kp, F.bindsN (fun _ _ _ _ _ _ us hl => match us, hl with | [_], _ => rfl), def_P (k := 1) F sc_is_text rfl fun cdv A outer s H E hr => ?_⟩
  have tk := takes_of (X := cxG P w K mg base ["thing", "sign"] "is_text" s_is_text fa cdv A outer s H E) rfl rfl rfl rfl
  have hp : PassesOwn (model P w) _ _ (cxG P w K mg base ["thing", "sign"] "is_text" s_is_text fa cdv A outer s H E).xe := passes_of rfl
  exact (gs_cons (gs_if (PW.pt (gw_or (gt_not (gt_val (ge_isi (T := .str) rfl B.isinstance rfl B.str (by decide +kernel) (ge_var (pv 0))))) (gw_or1 (gt_cmp op_gt od_gt (ge_callB call_len cd_len rfl B.len PySem.boot_len (ga_cons (ge_var (pv 0)) ga_nil)) (ge_gint B.c_MOST_SIGNS rfl) (nomark _))))) (gs_one (gs_ret ge_bl)) gs_nil) (gs_cons (gs_for (t := .nm 1) hp rfl (gi_str (ge_var (pv 0))) (pg_name (i := 1) nd rfl (by first | exact .inl rfl | exact .inr rfl)) (gs_one (gs_if (gt_cmp op_notIn_sign od_notInS (ge_var (pv 1)) (ge_gstr B.c_LETTERS rfl) rfl) (gs_one (gs_ret ge_bl)) gs_nil))) (gs_one (gs_ret ge_bl))))
abbrev s_is_map : Stmt := top 17
theorem sc_is_map : FnScope ["thing", "place"] ["thing"] (defScope s_is_map) := ⟨rfl, rfl, rfl, by decide +kernel, rfl, by decide +kernel, by decide +kernel⟩
structure D_is_map (P : Program) (w : World) (K : PySem.W.Frag) (mg : Str → Option Value) (base : Heap) (ct : Ct) : Prop where
  is_among : Dp' P w K mg base 3 "is_among" ["thing", "least", "most"] (spP K ct 3 f_is_among)
  u_ : True
def c_is_map : En → M Fl := sSeq (sIf (bOr (bNot (bVal (xUn (opIs .tuple) (xVar 0)))) (bNot (bVal (xChain opLe opLe (xC (.int 1)) (xCall opLen (aCons (xVar 0) (aNil))) (xC (.int 8)))))) (sRet (xC (.bl false))) (sSkip)) (sRet (xCall opAll (aCons (xLcN false (itTup (xVar 0)) [1] (.nm 1) (bYes) (xCallP f_is_among (aCons (xVar 1) (aCons (xC (.int 0)) (aCons (xBin opSub (xCall opLen (aCons (xVar 0) (aNil))) (xC (.int 1))) (aNil)))))) (aNil))))
def f_is_map : List D → Rp := runP c_is_map 2
theorem d_is_map (F : ∃ fa fd, mg "is_map" = some (.ref fa) ∧ FunG K "is_map" s_is_map fa fd) (B : Bt K mg ct) (T : Xt K mg ct ne) (D : D_is_map P w K mg base ct) : Dp' P w K mg base 4 "is_map" ["thing"] (spP K ct 1 f_is_map) := by
  obtain ⟨fa, fd, hm, F⟩ := F
  have nd := sc_is_map.nd
  refine ⟨fa, fd, hm, F.kp, F.bindsN (fun _ _ _ _ _ _ us hl => match us, hl with | [_], _ => rfl), def_P (k := 3) F sc_is_map rfl fun cdv A outer s H E hr => ?_⟩
  have tk := takes_of (X := cxG P w K mg base ["thing", "place"] "is_map" s_is_map fa cdv A outer s H E) rfl rfl rfl rfl
  exact (gs_cons (gs_if (PW.pt (gw_or (gt_not (gt_val (ge_isi (T := .tuple) rfl B.isinstance rfl B.tuple (by decide +kernel) (ge_var (pv 0))))) (gw_or1 (gt_not (gt_chain op_le od_le op_le od_le ge_int (ge_callB call_len cd_len rfl B.len PySem.boot_len (ga_cons (ge_var (pv 0)) ga_nil)) (ge_gint B.c_MOST_PLACES rfl)))))) (gs_one (gs_ret ge_bl)) gs_nil) (gs_one (gs_ret (ge_callB (cr_all rfl) cd_all rfl B.all (by decide +kernel) (ga_cons (ge_lc false rfl nd (own := [("place", 1)]) (t := .nm 1) (gi_tup (ge_var (pv 0))) (blkOk_by (own := [("place", 1)]) (by kernel_rfl)) (by decide) (fun _ _ _ _ _ => (pg_name (i := 1) nd rfl (by first | exact .inl rfl | exact .inr rfl))) (fun _ _ _ _ _ => gts_nil) (fun _ _ _ _ _ => (gc_P D.is_among hr (by decide) takes0 rfl (an_cons (an_cons (an_cons an_nil))) (ga_cons (ge_var (pv 1)) (ga_cons ge_int (ga_cons (ge_op op_sub od_sub (ge_callB call_len cd_len rfl B.len PySem.boot_len (ga_cons (ge_var (pv 0)) ga_nil)) ge_int) ga_nil)))))) ga_nil)))))
abbrev s_is_step : Stmt := top 18
theorem sc_is_step : FnScope ["thing", "part"] ["thing"] (defScope s_is_step) := ⟨rfl, rfl, rfl, by decide +kernel, rfl, by decide +kernel, by decide +kernel⟩
structure D_is_step (P : Program) (w : World) (K : PySem.W.Frag) (mg : Str → Option Value) (base : Heap) (ct : Ct) : Prop where
  is_among : Dp' P w K mg base 3 "is_among" ["thing", "least", "most"] (spP K ct 3 f_is_among)
  u_ : True
def c_is_step : En → M Fl := sRet (xAnd (xUn (opIs .tuple) (xVar 0)) (xAnd (xBin (opEq true) (xCall opLen (aCons (xVar 0) (aNil))) (xC (.int 2))) (xCall opAll (aCons (xLcN false (itTup (xVar 0)) [1] (.nm 1) (bYes) (xCallP f_is_among (aCons (xVar 1) (aCons (xC (.int 0)) (aCons (xBin opSub (xC (.int 1000003)) (xC (.int 1))) (aNil)))))) (aNil)))))
def f_is_step : List D → Rp := runP c_is_step 2
theorem d_is_step (F : ∃ fa fd, mg "is_step" = some (.ref fa) ∧ FunG K "is_step" s_is_step fa fd) (B : Bt K mg ct) (T : Xt K mg ct ne) (D : D_is_step P w K mg base ct) : Dp' P w K mg base 4 "is_step" ["thing"] (spP K ct 1 f_is_step) := by
  obtain ⟨fa, fd, hm, F⟩ := F
  have nd := sc_is_step.nd
  refine ⟨fa, fd, hm, F.kp, F.bindsN (fun _ _ _ _ _ _ us hl => match us, hl with | [_], _ => rfl), def_P (k := 3) F sc_is_step rfl fun cdv A outer s H E hr => ?_⟩
  have tk := takes_of (X := cxG P w K mg base ["thing", "part"] "is_step" s_is_step fa cdv A outer s H E) rfl rfl rfl rfl
  exact (gs_one (gs_ret (ge_and (ge_isi (T := .tuple) rfl B.isinstance rfl B.tuple (by decide +kernel) (ge_var (pv 0))) (ge_and (ge_cmp (op_eqD hr.units) od_eq (ge_callB call_len cd_len rfl B.len PySem.boot_len (ga_cons (ge_var (pv 0)) ga_nil)) ge_int (nomark _)) (ge_one (ge_callB (cr_all rfl) cd_all rfl B.all (by decide +kernel) (ga_cons (ge_lc false rfl nd (own := [("part", 1)]) (t := .nm 1) (gi_tup (ge_var (pv 0))) (blkOk_by (own := [("part", 1)]) (by kernel_rfl)) (by decide) (fun _ _ _ _ _ => (pg_name (i := 1) nd rfl (by first | exact .inl rfl | exact .inr rfl))) (fun _ _ _ _ _ => gts_nil) (fun _ _ _ _ _ => (gc_P D.is_among hr (by decide) takes0 rfl (an_cons (an_cons (an_cons an_nil))) (ga_cons (ge_var (pv 1)) (ga_cons ge_int (ga_cons (ge_op op_sub od_sub (ge_gint B.c_RING rfl) ge_int) ga_nil)))))) ga_nil)))))))
abbrev s_need_kind : Stmt := top 19
theorem sc_need_kind : FnScope ["kind"] ["kind"] (defScope s_need_kind) := ⟨rfl, rfl, rfl, by decide +kernel, rfl, by decide +kernel, by decide +kernel⟩
structure D_need_kind (P : Program) (w : World) (K : PySem.W.Frag) (mg : Str → Option Value) (base : Heap) (ct : Ct) : Prop where
  u_ : True
def c_need_kind : En → M Fl := sIf (bOr (bNot (bVal (xUn (opIs .str) (xVar 0)))) (bVal (xUn (opNotK kindsS) (xVar 0)))) (sRaise .kind) (sSkip)
def f_need_kind : List D → Rp := runP c_need_kind 1
theorem d_need_kind (F : ∃ fa fd, mg "need_kind" = some (.ref fa) ∧ FunG K "need_kind" s_need_kind fa fd) (B : Bt K mg ct) (T : Xt K mg ct ne) (D : D_need_kind P w K mg base ct) : Dp' P w K mg base 2 "need_kind" ["kind"] (spP K ct 1 f_need_kind) := by
  obtain ⟨fa, fd, hm, F⟩ := F
  have nd := sc_need_kind.nd
  refine ⟨fa, fd, hm, F.kp, F.bindsN (fun _ _ _ _ _ _ us hl => match us, hl with | [_], _ => rfl), def_P (k := 1) F sc_need_kind rfl fun cdv A outer s H E hr => ?_⟩
  have tk := takes_of (X := cxG P w K mg base ["kind"] "need_kind" s_need_kind fa cdv A outer s H E) rfl rfl rfl rfl
  exact (gs_one (gs_if (PW.pt (gw_or (gt_not (gt_val (ge_isi (T := .str) rfl B.isinstance rfl B.str (by decide +kernel) (ge_var (pv 0))))) (gw_or1 (gt_notKind B.kinds rfl (ge_var (pv 0)))))) (gs_one (gs_raise4 .kind rfl tk B.x_kind.exc B.x_kind.mg B.x_kind.keep (B.x_kind.raises) rfl)) gs_nil))
abbrev s_is_of : Stmt := top 20
theorem sc_is_of : FnScope ["kind", "thing"] ["kind", "thing"] (defScope s_is_of) := ⟨rfl, rfl, rfl, by decide +kernel, rfl, by decide +kernel, by decide +kernel⟩
structure D_is_of (P : Program) (w : World) (K : PySem.W.Frag) (mg : Str → Option Value) (base : Heap) (ct : Ct) : Prop where
  is_text : Dp' P w K mg base 2 "is_text" ["thing"] (spP K ct 1 f_is_text)
  is_map : Dp' P w K mg base 4 "is_map" ["thing"] (spP K ct 1 f_is_map)
  is_step : Dp' P w K mg base 4 "is_step" ["thing"] (spP K ct 1 f_is_step)
  is_among : Dp' P w K mg base 3 "is_among" ["thing", "least", "most"] (spP K ct 3 f_is_among)
  u_ : True
def c_is_of : En → M Fl := sSeq (sIf (bVal (xBin (opEq true) (xVar 0) (xC (.str (PySem.Str.ofString "text"))))) (sRet (xCallP f_is_text (aCons (xVar 1) (aNil)))) (sSkip)) (sSeq (sIf (bVal (xBin (opEq true) (xVar 0) (xC (.str (PySem.Str.ofString "map"))))) (sRet (xCallP f_is_map (aCons (xVar 1) (aNil)))) (sSkip)) (sSeq (sIf (bVal (xBin (opEq true) (xVar 0) (xC (.str (PySem.Str.ofString "step"))))) (sRet (xCallP f_is_step (aCons (xVar 1) (aNil)))) (sSkip)) (sRet (xCallP f_is_among (aCons (xVar 1) (aCons (xBin opSub (xC (.int 0)) (xC (.int 1000000000000))) (aCons (xC (.int 1000000000000)) (aNil))))))))
def f_is_of : List D → Rp := runP c_is_of 2
theorem d_is_of (F : ∃ fa fd, mg "is_of" = some (.ref fa) ∧ FunG K "is_of" s_is_of fa fd) (B : Bt K mg ct) (T : Xt K mg ct ne) (D : D_is_of P w K mg base ct) : Dp' P w K mg base 5 "is_of" ["kind", "thing"] (spP K ct 2 f_is_of) := by
  obtain ⟨fa, fd, hm, F⟩ := F
  have nd := sc_is_of.nd
  refine ⟨fa, fd, hm, F.kp, F.bindsN (fun _ _ _ _ _ _ us hl => match us, hl with | [_, _], _ => rfl), def_P (k := 4) F sc_is_of rfl fun cdv A outer s H E hr => ?_⟩
  have tk := takes_of (X := cxG P w K mg base ["kind", "thing"] "is_of" s_is_of fa cdv A outer s H E) rfl rfl rfl rfl
  exact (gs_cons (gs_if (gt_cmp (op_eqD hr.units) od_eq (ge_var (pv 0)) ge_str (nomark _)) (gs_one (gs_ret (gc_P D.is_text hr (by decide) tk rfl (an_cons an_nil) (ga_cons (ge_var (pv 1)) ga_nil)))) gs_nil) (gs_cons (gs_if (gt_cmp (op_eqD hr.units) od_eq (ge_var (pv 0)) ge_str (nomark _)) (gs_one (gs_ret (gc_P D.is_map hr (by decide) tk rfl (an_cons an_nil) (ga_cons (ge_var (pv 1)) ga_nil)))) gs_nil) (gs_cons (gs_if (gt_cmp (op_eqD hr.units) od_eq (ge_var (pv 0)) ge_str (nomark _)) (gs_one (gs_ret (gc_P D.is_step hr (by decide) tk rfl (an_cons an_nil) (ga_cons (ge_var (pv 1)) ga_nil)))) gs_nil) (gs_one (gs_ret (gc_P D.is_among hr (by decide) tk rfl (an_cons (an_cons (an_cons an_nil))) (ga_cons (ge_var (pv 1)) (ga_cons (ge_op op_sub od_sub ge_int (ge_gint B.c_FAR rfl)) (ga_cons (ge_gint B.c_FAR rfl) ga_nil)))))))))
abbrev s_need_thing : Stmt := top 21
theorem sc_need_thing : FnScope ["kind", "thing"] ["kind", "thing"] (defScope s_need_thing) := ⟨rfl, rfl, rfl, by decide +kernel, rfl, by decide +kernel, by decide +kernel⟩
structure D_need_thing (P : Program) (w : World) (K : PySem.W.Frag) (mg : Str → Option Value) (base : Heap) (ct : Ct) : Prop where
  need_kind : Dp' P w K mg base 2 "need_kind" ["kind"] (spP K ct 1 f_need_kind)
  is_of : Dp' P w K mg base 5 "is_of" ["kind", "thing"] (spP K ct 2 f_is_of)
  u_ : True
def c_need_thing : En → M Fl := sSeq (sDrop (xCallP f_need_kind (aCons (xVar 0) (aNil)))) (sIf (bNot (bVal (xCallP f_is_of (aCons (xVar 0) (aCons (xVar 1) (aNil)))))) (sRaise .thing) (sSkip))
def f_need_thing : List D → Rp := runP c_need_thing 2
theorem d_need_thing (F : ∃ fa fd, mg "need_thing" = some (.ref fa) ∧ FunG K "need_thing" s_need_thing fa fd) (B : Bt K mg ct) (T : Xt K mg ct ne) (D : D_need_thing P w K mg base ct) : Dp' P w K mg base 6 "need_thing" ["kind", "thing"] (spP K ct 2 f_need_thing) := by
  obtain ⟨fa, fd, hm, F⟩ := F
  have nd := sc_need_thing.nd
  refine ⟨fa, fd, hm, F.kp, F.bindsN (fun _ _ _ _ _ _ us hl => match us, hl with | [_, _], _ => rfl), def_P (k := 5) F sc_need_thing rfl fun cdv A outer s H E hr => ?_⟩
  have tk := takes_of (X := cxG P w K mg base ["kind", "thing"] "need_thing" s_need_thing fa cdv A outer s H E) rfl rfl rfl rfl
  exact (gs_cons (gs_drop (gc_P D.need_kind hr (by decide) tk rfl (an_cons an_nil) (ga_cons (ge_var (pv 0)) ga_nil))) (gs_one (gs_if (gt_not (gt_val (gc_P D.is_of hr (by decide) tk rfl (an_cons (an_cons an_nil)) (ga_cons (ge_var (pv 0)) (ga_cons (ge_var (pv 1)) ga_nil))))) (gs_one (gs_raise4 .thing rfl tk B.x_thing.exc B.x_thing.mg B.x_thing.keep (B.x_thing.raises) rfl)) gs_nil)))
abbrev s_need_alike : Stmt := top 22
theorem sc_need_alike : FnScope ["kind", "things", "thing"] ["kind", "things"] (defScope s_need_alike) := ⟨rfl, rfl, rfl, by decide +kernel, rfl, by decide +kernel, by decide +kernel⟩
structure D_need_alike (P : Program) (w : World) (K : PySem.W.Frag) (mg : Str → Option Value) (base : Heap) (ct : Ct) : Prop where
  u_ : True
def c_need_alike : En → M Fl := sIf (bVal (xBin (opEq true) (xVar 0) (xC (.str (PySem.Str.ofString "map"))))) (sFor (itSeq (xVar 1)) (.nm 2) (sIf (bVal (xBin (opEq false) (xCall opLen (aCons (xVar 2) (aNil))) (xCall opLen (aCons (xBin opIx (xVar 1) (xC (.int 0))) (aNil))))) (sRaise .thing) (sSkip))) (sSkip)
def f_need_alike : List D → Rp := runP c_need_alike 3
theorem d_need_alike (F : ∃ fa fd, mg "need_alike" = some (.ref fa) ∧ FunG K "need_alike" s_need_alike fa fd) (B : Bt K mg ct) (T : Xt K mg ct ne) (D : D_need_alike P w K mg base ct) : Dp' P w K mg base 2 "need_alike" ["kind", "things"] (spP K ct 2 f_need_alike) := by
  obtain ⟨fa, fd, hm, F⟩ := F
  have nd := sc_need_alike.nd
  refine ⟨fa, fd, hm, F.kp, F.bindsN (fun _ _ _ _ _ _ us hl => match us, hl with | [_, _], _ => rfl), def_P (k := 1) F sc_need_alike rfl fun cdv A outer s H E hr => ?_⟩
  have tk := takes_of (X := cxG P w K mg base ["kind", "things", "thing"] "need_alike" s_need_alike fa cdv A outer s H E) rfl rfl rfl rfl
  have hp : PassesOwn (model P w) _ _ (cxG P w K mg base ["kind", "things", "thing"] "need_alike" s_need_alike fa cdv A outer s H E).xe := passes_of rfl
  exact (gs_one (gs_if (gt_cmp (op_eqD hr.units) od_eq (ge_var (pv 0)) ge_str (nomark _)) (gs_one (gs_for (t := .nm 2) hp rfl (gi_seq (ge_var (pv 1))) (pg_name (i := 2) nd rfl (by first | exact .inl rfl | exact .inr rfl)) (gs_one (gs_if (gt_cmp (op_neD hr.units) od_ne (ge_callB call_len cd_len rfl B.len PySem.boot_len (ga_cons (ge_var (pv 2)) ga_nil)) (ge_callB call_len cd_len rfl B.len PySem.boot_len (ga_cons (ge_ix ix_seq od_ix (ge_var (pv 1)) ge_int (fun _ _ => rfl)) ga_nil)) (nomark _)) (gs_one (gs_raise4 .thing rfl tk B.x_thing.exc B.x_thing.mg B.x_thing.keep (B.x_thing.raises) rfl)) gs_nil)))) gs_nil))
abbrev s_put_together : Stmt := top 23
theorem sc_put_together : FnScope ["kind", "one", "other", "place"] ["kind", "one", "other"] (defScope s_put_together) := ⟨rfl, rfl, rfl, by decide +kernel, rfl, by decide +kernel, by decide +kernel⟩
structure D_put_together (P : Program) (w : World) (K : PySem.W.Frag) (mg : Str → Option Value) (base : Heap) (ct : Ct) : Prop where
  u_ : True
def c_put_together : En → M Fl := sSeq (sIf (bVal (xBin (opEq true) (xVar 0) (xC (.str (PySem.Str.ofString "most"))))) (sRet (xCall opMax2 (aCons (xVar 1) (aCons (xVar 2) (aNil))))) (sSkip)) (sSeq (sIf (bVal (xBin (opEq true) (xVar 0) (xC (.str (PySem.Str.ofString "map"))))) (sRet (xCall opTuple (aCons (xLcN false (itTup (xVar 1)) [3] (.nm 3) (bYes) (xBin opIx (xVar 2) (xVar 3))) (aNil)))) (sSkip)) (sSeq (sIf (bVal (xBin (opEq true) (xVar 0) (xC (.str (PySem.Str.ofString "step"))))) (sRet (xTup (aCons (xBin opMod (xBin (opMulX false) (xBin opIx (xVar 1) (xC (.int 0))) (xBin opIx (xVar 2) (xC (.int 0)))) (xC (.int 1000003))) (aCons (xBin opMod (xBin (opAdd false) (xBin (opMulX false) (xBin opIx (xVar 1) (xC (.int 1))) (xBin opIx (xVar 2) (xC (.int 0)))) (xBin opIx (xVar 2) (xC (.int 1)))) (xC (.int 1000003))) (aNil))))) (sSkip)) (sRet (xBin (opAdd false) (xVar 1) (xVar 2)))))
def f_put_together : List D → Rp := runP c_put_together 4
theorem d_put_together (F : ∃ fa fd, mg "put_together" = some (.ref fa) ∧ FunG K "put_together" s_put_together fa fd) (B : Bt K mg ct) (T : Xt K mg ct ne) (D : D_put_together P w K mg base ct) : Dp' P w K mg base 2 "put_together" ["kind", "one", "other"] (spP K ct 3 f_put_together) := by
  obtain ⟨fa, fd, hm, F⟩ := F
  have nd := sc_put_together.nd
  refine ⟨fa, fd, hm, F.kp, F.bindsN (fun _ _ _ _ _ _ us hl => match us, hl with | [_, _, _], _ => rfl), def_P (k := 1) F sc_put_together rfl fun cdv A outer s H E hr => ?_⟩
  have tk := takes_of (X := cxG P w K mg base ["kind", "one", "other", "place"] "put_together" s_put_together fa cdv A outer s H E) rfl rfl rfl rfl
  exact (gs_cons (gs_if (gt_cmp (op_eqD hr.units) od_eq (ge_var (pv 0)) ge_str (nomark _)) (gs_one (gs_ret (ge_callB (call_max2 rfl) cd_max2 rfl B.max (by decide +kernel) (ga_cons (ge_var (pv 1)) (ga_cons (ge_var (pv 2)) ga_nil))))) gs_nil) (gs_cons (gs_if (gt_cmp (op_eqD hr.units) od_eq (ge_var (pv 0)) ge_str (nomark _)) (gs_one (gs_ret (ge_callTy call_tuple_of cd_tuple rfl B.tuple (by decide +kernel) (ga_cons (ge_lc false rfl nd (own := [("place", 3)]) (t := .nm 3) (gi_tup (ge_var (pv 1))) (blkOk_by (own := [("place", 3)]) (by kernel_rfl)) (by decide) (fun _ _ _ _ _ => (pg_name (i := 3) nd rfl (by first | exact .inl rfl | exact .inr rfl))) (fun _ _ _ _ _ => gts_nil) (fun _ _ _ _ _ => (ge_ix ix_seq od_ix (ge_var (pv 2)) (ge_var (pv 3)) (fun _ _ => rfl)))) ga_nil)))) gs_nil) (gs_cons (gs_if (gt_cmp (op_eqD hr.units) od_eq (ge_var (pv 0)) ge_str (nomark _)) (gs_one (gs_ret (ge_tup (ga_cons (ge_op op_mod od_mod (ge_op op_mulX (od_mulX false) (ge_ix ix_seq od_ix (ge_var (pv 1)) ge_int (fun _ _ => rfl)) (ge_ix ix_seq od_ix (ge_var (pv 2)) ge_int (fun _ _ => rfl))) (ge_gint B.c_RING rfl)) (ga_cons (ge_op op_mod od_mod (ge_op op_addA (od_add false) (ge_op op_mulX (od_mulX false) (ge_ix ix_seq od_ix (ge_var (pv 1)) ge_int (fun _ _ => rfl)) (ge_ix ix_seq od_ix (ge_var (pv 2)) ge_int (fun _ _ => rfl))) (ge_ix ix_seq od_ix (ge_var (pv 2)) ge_int (fun _ _ => rfl))) (ge_gint B.c_RING rfl)) ga_nil))))) gs_nil) (gs_one (gs_ret (ge_op op_addA (od_add false) (ge_var (pv 1)) (ge_var (pv 2))))))))
abbrev s_joined : Stmt := top 24
theorem sc_joined : FnScope ["kind", "one", "other"] ["kind", "one", "other"] (defScope s_joined) := ⟨rfl, rfl, rfl, by decide +kernel, rfl, by decide +kernel, by decide +kernel⟩
structure D_joined (P : Program) (w : World) (K : PySem.W.Frag) (mg : Str → Option Value) (base : Heap) (ct : Ct) : Prop where
  need_thing : Dp' P w K mg base 6 "need_thing" ["kind", "thing"] (spP K ct 2 f_need_thing)
  need_alike : Dp' P w K mg base 2 "need_alike" ["kind", "things"] (spP K ct 2 f_need_alike)
  put_together : Dp' P w K mg base 2 "put_together" ["kind", "one", "other"] (spP K ct 3 f_put_together)
  u_ : True
def c_joined : En → M Fl := sSeq (sDrop (xCallP f_need_thing (aCons (xVar 0) (aCons (xVar 1) (aNil))))) (sSeq (sDrop (xCallP f_need_thing (aCons (xVar 0) (aCons (xVar 2) (aNil))))) (sSeq (sDrop (xCallP f_need_alike (aCons (xVar 0) (aCons (xLst false (aCons (xVar 1) (aCons (xVar 2) (aNil)))) (aNil))))) (sRet (xCallP f_put_together (aCons (xVar 0) (aCons (xVar 1) (aCons (xVar 2) (aNil))))))))
def f_joined : List D → Rp := runP c_joined 3
theorem d_joined (F : ∃ fa fd, mg "joined" = some (.ref fa) ∧ FunG K "joined" s_joined fa fd) (B : Bt K mg ct) (T : Xt K mg ct ne) (D : D_joined P w K mg base ct) : Dp' P w K mg base 7 "joined" ["kind", "one", "other"] (spP K ct 3 f_joined) := by
  obtain ⟨fa, fd, hm, F⟩ := F
  have nd := sc_joined.nd
  refine ⟨fa, fd, hm, F.kp, F.bindsN (fun _ _ _ _ _ _ us hl => match us, hl with | [_, _, _], _ => rfl), def_P (k := 6) F sc_joined rfl fun cdv A outer s H E hr => ?_⟩
  have tk := takes_of (X := cxG P w K mg base ["kind", "one", "other"] "joined" s_joined fa cdv A outer s H E) rfl rfl rfl rfl
  exact (gs_cons (gs_drop (gc_P D.need_thing hr (by decide) tk rfl (an_cons (an_cons an_nil)) (ga_cons (ge_var (pv 0)) (ga_cons (ge_var (pv 1)) ga_nil)))) (gs_cons (gs_drop (gc_P D.need_thing hr (by decide) tk rfl (an_cons (an_cons an_nil)) (ga_cons (ge_var (pv 0)) (ga_cons (ge_var (pv 2)) ga_nil)))) (gs_cons (gs_drop (gc_P D.need_alike hr (by decide) tk rfl (an_cons (an_cons an_nil)) (ga_cons (ge_var (pv 0)) (ga_cons (ge_lst false (ga_cons (ge_var (pv 1)) (ga_cons (ge_var (pv 2)) ga_nil))) ga_nil)))) (gs_one (gs_ret (gc_P D.put_together hr (by decide) tk rfl (an_cons (an_cons (an_cons an_nil))) (ga_cons (ge_var (pv 0)) (ga_cons (ge_var (pv 1)) (ga_cons (ge_var (pv 2)) ga_nil)))))))))
abbrev s__law_cell_at : Stmt := top 26
theorem sc__law_cell_at : FnScope ["_law_script", "_law_k"] ["_law_script", "_law_k"] (defScope s__law_cell_at) := ⟨rfl, rfl, rfl, by decide +kernel, rfl, by decide +kernel, by decide +kernel⟩
structure D__law_cell_at (P : Program) (w : World) (K : PySem.W.Frag) (mg : Str → Option Value) (base : Heap) (ct : Ct) : Prop where
  u_ : True
def c__law_cell_at : En → M Fl := sSeq (sIf (bVal (xBin opLt (xVar 1) (xCall opLen (aCons (xVar 0) (aNil))))) (sRet (xBin opIx (xVar 0) (xVar 1))) (sSkip)) (sRet (xC (.int 0)))
def f__law_cell_at : List D → Rp := runP c__law_cell_at 2
theorem d__law_cell_at (F : ∃ fa fd, mg "_law_cell_at" = some (.ref fa) ∧ FunG K "_law_cell_at" s__law_cell_at fa fd) (B : Bt K mg ct) (T : Xt K mg ct ne) (D : D__law_cell_at P w K mg base ct) : Dp' P w K mg base 2 "_law_cell_at" ["_law_script", "_law_k"] (spP K ct 2 f__law_cell_at) := by
  obtain ⟨fa, fd, hm, F⟩ := F
  have nd := sc__law_cell_at.nd
  refine ⟨fa, fd, hm, F.kp, F.bindsN (fun _ _ _ _ _ _ us hl => match us, hl with | [_, _], _ => rfl), def_P (k := 1) F sc__law_cell_at rfl fun cdv A outer s H E hr => ?_⟩
  have tk := takes_of (X := cxG P w K mg base ["_law_script", "_law_k"] "_law_cell_at" s__law_cell_at fa cdv A outer s H E) rfl rfl rfl rfl
  exact (gs_cons (gs_if (gt_cmp op_lt od_lt (ge_var (pv 1)) (ge_callB call_len cd_len rfl B.len PySem.boot_len (ga_cons (ge_var (pv 0)) ga_nil)) (nomark _)) (gs_one (gs_ret (ge_ix ix_seq od_ix (ge_var (pv 0)) (ge_var (pv 1)) (fun _ _ => rfl)))) gs_nil) (gs_one (gs_ret ge_int)))
abbrev s__law_whole : Stmt := top 27
theorem sc__law_whole : FnScope ["_law_found"] ["_law_found"] (defScope s__law_whole) := ⟨rfl, rfl, rfl, by decide +kernel, rfl, by decide +kernel, by decide +kernel⟩
structure D__law_whole (P : Program) (w : World) (K : PySem.W.Frag) (mg : Str → Option Value) (base : Heap) (ct : Ct) : Prop where
  u_ : True
def c__law_whole : En → M Fl := sRet (xAnd (xUn (opIs .int) (xVar 0)) (xNot (xUn (opIs .bool) (xVar 0))))
def f__law_whole : List D → Rp := runP c__law_whole 1
theorem d__law_whole (F : ∃ fa fd, mg "_law_whole" = some (.ref fa) ∧ FunG K "_law_whole" s__law_whole fa fd) (B : Bt K mg ct) (T : Xt K mg ct ne) (D : D__law_whole P w K mg base ct) : Dp' P w K mg base 2 "_law_whole" ["_law_found"] (spP K ct 1 f__law_whole) := by
  obtain ⟨fa, fd, hm, F⟩ := F
  have nd := sc__law_whole.nd
  refine ⟨fa, fd, hm, F.kp, F.bindsN (fun _ _ _ _ _ _ us hl => match us, hl with | [_], _ => rfl), def_P (k := 1) F sc__law_whole rfl fun cdv A outer s H E hr => ?_⟩
  have tk := takes_of (X := cxG P w K mg base ["_law_found"] "_law_whole" s__law_whole fa cdv A outer s H E) rfl rfl rfl rfl
  exact (gs_one (gs_ret (ge_and (ge_isi (T := .int) rfl B.isinstance rfl B.int (by decide +kernel) (ge_var (pv 0))) (ge_one (ge_not (ge_isi (T := .bool) rfl B.isinstance rfl B.bool (by decide +kernel) (ge_var (pv 0))))))))
abbrev s__law_join : Stmt := top 28
theorem sc__law_join : FnScope ["_law_kind", "_law_one", "_law_other", "_law_k"] ["_law_kind", "_law_one", "_law_other"] (defScope s__law_join) := ⟨rfl, rfl, rfl, by decide +kernel, rfl, by decide +kernel, by decide +kernel⟩
structure D__law_join (P : Program) (w : World) (K : PySem.W.Frag) (mg : Str → Option Value) (base : Heap) (ct : Ct) : Prop where
  u_ : True
def c__law_join : En → M Fl := sSeq (sIf (bVal (xBin (opEq true) (xVar 0) (xC (.str (PySem.Str.ofString "sum"))))) (sRet (xBin (opAdd false) (xVar 1) (xVar 2))) (sSkip)) (sSeq (sIf (bVal (xBin (opEq true) (xVar 0) (xC (.str (PySem.Str.ofString "most"))))) (sRet (xBin opIx (xLst false (aCons (xVar 1) (aCons (xVar 2) (aNil)))) (xCall opInt (aCons (xBin opGt (xVar 2) (xVar 1)) (aNil))))) (sSkip)) (sSeq (sIf (bVal (xBin (opEq true) (xVar 0) (xC (.str (PySem.Str.ofString "text"))))) (sRet (xUn (opJoin (PySem.Str.ofString "")) (xLst false (aCons (xVar 1) (aCons (xVar 2) (aNil)))))) (sSkip)) (sSeq (sIf (bVal (xBin (opEq true) (xVar 0) (xC (.str (PySem.Str.ofString "map"))))) (sRet (xCall opTuple (aCons (xLcN false (itR1 (xCall opLen (aCons (xVar 1) (aNil)))) [3] (.nm 3) (bYes) (xBin opIx (xVar 2) (xBin opIx (xVar 1) (xVar 3)))) (aNil)))) (sSkip)) (sRet (xTup (aCons (xBin opMod (xBin (opMulX false) (xBin opIx (xVar 1) (xC (.int 0))) (xBin opIx (xVar 2) (xC (.int 0)))) (xC (.int 1000003))) (aCons (xBin opMod (xBin (opAdd false) (xBin (opMulX false) (xBin opIx (xVar 1) (xC (.int 1))) (xBin opIx (xVar 2) (xC (.int 0)))) (xBin opIx (xVar 2) (xC (.int 1)))) (xC (.int 1000003))) (aNil))))))))
def f__law_join : List D → Rp := runP c__law_join 4
theorem d__law_join (F : ∃ fa fd, mg "_law_join" = some (.ref fa) ∧ FunG K "_law_join" s__law_join fa fd) (B : Bt K mg ct) (T : Xt K mg ct ne) (D : D__law_join P w K mg base ct) : Dp' P w K mg base 2 "_law_join" ["_law_kind", "_law_one", "_law_other"] (spP K ct 3 f__law_join) := by
  obtain ⟨fa, fd, hm, F⟩ := F
  have nd := sc__law_join.nd
  refine ⟨fa, fd, hm, F.kp, F.bindsN (fun _ _ _ _ _ _ us hl => match us, hl with | [_, _, _], _ => rfl), def_P (k := 1) F sc__law_join rfl fun cdv A outer s H E hr => ?_⟩
  have tk := takes_of (X := cxG P w K mg base ["_law_kind", "_law_one", "_law_other", "_law_k"] "_law_join" s__law_join fa cdv A outer s H E) rfl rfl rfl rfl
  exact (gs_cons (gs_if (gt_cmp (op_eqD hr.units) od_eq (ge_var (pv 0)) ge_str (nomark _)) (gs_one (gs_ret (ge_op op_addA (od_add false) (ge_var (pv 1)) (ge_var (pv 2))))) gs_nil) (gs_cons (gs_if (gt_cmp (op_eqD hr.units) od_eq (ge_var (pv 0)) ge_str (nomark _)) (gs_one (gs_ret (ge_ix ix_seq od_ix (ge_lst false (ga_cons (ge_var (pv 1)) (ga_cons (ge_var (pv 2)) ga_nil))) (ge_callTy call_int1 cd_int rfl B.int (by decide +kernel) (ga_cons (ge_cmp op_gt od_gt (ge_var (pv 2)) (ge_var (pv 1)) (nomark _)) ga_nil)) (fun _ _ => rfl)))) gs_nil) (gs_cons (gs_if (gt_cmp (op_eqD hr.units) od_eq (ge_var (pv 0)) ge_str (nomark _)) (gs_one (gs_ret (ge_join (ge_lst false (ga_cons (ge_var (pv 1)) (ga_cons (ge_var (pv 2)) ga_nil)))))) gs_nil) (gs_cons (gs_if (gt_cmp (op_eqD hr.units) od_eq (ge_var (pv 0)) ge_str (nomark _)) (gs_one (gs_ret (ge_callTy call_tuple_of cd_tuple rfl B.tuple (by decide +kernel) (ga_cons (ge_lc false rfl nd (own := [("_law_k", 3)]) (t := .nm 3) (gi_r1 rfl B.range (ge_callB call_len cd_len rfl B.len PySem.boot_len (ga_cons (ge_var (pv 1)) ga_nil))) (blkOk_by (own := [("_law_k", 3)]) (by kernel_rfl)) (by decide) (fun _ _ _ _ _ => (pg_name (i := 3) nd rfl (by first | exact .inl rfl | exact .inr rfl))) (fun _ _ _ _ _ => gts_nil) (fun _ _ _ _ _ => (ge_ix ix_seq od_ix (ge_var (pv 2)) (ge_ix ix_seq od_ix (ge_var (pv 1)) (ge_var (pv 3)) (fun _ _ => rfl)) (fun _ _ => rfl)))) ga_nil)))) gs_nil) (gs_one (gs_ret (ge_tup (ga_cons (ge_op op_mod od_mod (ge_op op_mulX (od_mulX false) (ge_ix ix_seq od_ix (ge_var (pv 1)) ge_int (fun _ _ => rfl)) (ge_ix ix_seq od_ix (ge_var (pv 2)) ge_int (fun _ _ => rfl))) ge_int) (ga_cons (ge_op op_mod od_mod (ge_op op_addA (od_add false) (ge_op op_mulX (od_mulX false) (ge_ix ix_seq od_ix (ge_var (pv 1)) ge_int (fun _ _ => rfl)) (ge_ix ix_seq od_ix (ge_var (pv 2)) ge_int (fun _ _ => rfl))) (ge_ix ix_seq od_ix (ge_var (pv 2)) ge_int (fun _ _ => rfl))) ge_int) ga_nil)))))))))
abbrev s__law_alike : Stmt := top 29
theorem sc__law_alike : FnScope ["_law_found", "_law_due", "_law_part"] ["_law_found", "_law_due"] (defScope s__law_alike) := ⟨rfl, rfl, rfl, by decide +kernel, rfl, by decide +kernel, by decide +kernel⟩
structure D__law_alike (P : Program) (w : World) (K : PySem.W.Frag) (mg : Str → Option Value) (base : Heap) (ct : Ct) : Prop where
  _law_whole : Dp' P w K mg base 2 "_law_whole" ["_law_found"] (spP K ct 1 f__law_whole)
  u_ : True
def c__law_alike : En → M Fl := sSeq (sIf (bVal (xUn (opIs .tuple) (xVar 1))) (sSeq (sIf (bOr (bNot (bVal (xUn (opIs .tuple) (xVar 0)))) (bVal (xBin (opEq false) (xCall opLen (aCons (xVar 0) (aNil))) (xCall opLen (aCons (xVar 1) (aNil)))))) (sRet (xC (.bl false))) (sSkip)) (sRet (xAnd (xCall opAll (aCons (xLcN false (itTup (xVar 0)) [2] (.nm 2) (bYes) (xCallP f__law_whole (aCons (xVar 2) (aNil)))) (aNil))) (xBin (opEq true) (xVar 0) (xVar 1))))) (sSkip)) (sSeq (sIf (bVal (xUn (opIs .str) (xVar 1))) (sRet (xAnd (xUn (opIs .str) (xVar 0)) (xBin (opEq true) (xVar 0) (xVar 1)))) (sSkip)) (sRet (xAnd (xCallP f__law_whole (aCons (xVar 0) (aNil))) (xBin (opEq true) (xVar 0) (xVar 1)))))
def f__law_alike : List D → Rp := runP c__law_alike 3
theorem d__law_alike (F : ∃ fa fd, mg "_law_alike" = some (.ref fa) ∧ FunG K "_law_alike" s__law_alike fa fd) (B : Bt K mg ct) (T : Xt K mg ct ne) (D : D__law_alike P w K mg base ct) : Dp' P w K mg base 3 "_law_alike" ["_law_found", "_law_due"] (spP K ct 2 f__law_alike) := by
  obtain ⟨fa, fd, hm, F⟩ := F
  have nd := sc__law_alike.nd
  refine ⟨fa, fd, hm, F.kp, F.bindsN (fun _ _ _ _ _ _ us hl => match us, hl with | [_, _], _ => rfl), def_P (k := 2) F sc__law_alike rfl fun cdv A outer s H E hr => ?_⟩
  have tk := takes_of (X := cxG P w K mg base ["_law_found", "_law_due", "_law_part"] "_law_alike" s__law_alike fa cdv A outer s H E) rfl rfl rfl rfl
  exact (gs_cons (gs_if (gt_val (ge_isi (T := .tuple) rfl B.isinstance rfl B.tuple (by decide +kernel) (ge_var (pv 1)))) (gs_cons (gs_if (PW.pt (gw_or (gt_not (gt_val (ge_isi (T := .tuple) rfl B.isinstance rfl B.tuple (by decide +kernel) (ge_var (pv 0))))) (gw_or1 (gt_cmp (op_neD hr.units) od_ne (ge_callB call_len cd_len rfl B.len PySem.boot_len (ga_cons (ge_var (pv 0)) ga_nil)) (ge_callB call_len cd_len rfl B.len PySem.boot_len (ga_cons (ge_var (pv 1)) ga_nil)) (nomark _))))) (gs_one (gs_ret ge_bl)) gs_nil) (gs_one (gs_ret (ge_and (ge_callB (cr_all rfl) cd_all rfl B.all (by decide +kernel) (ga_cons (ge_lc false rfl nd (own := [("_law_part", 2)]) (t := .nm 2) (gi_tup (ge_var (pv 0))) (blkOk_by (own := [("_law_part", 2)]) (by kernel_rfl)) (by decide) (fun _ _ _ _ _ => (pg_name (i := 2) nd rfl (by first | exact .inl rfl | exact .inr rfl))) (fun _ _ _ _ _ => gts_nil) (fun _ _ _ _ _ => (gc_P D._law_whole hr (by decide) takes0 rfl (an_cons an_nil) (ga_cons (ge_var (pv 2)) ga_nil)))) ga_nil)) (ge_one (ge_cmp (op_eqD hr.units) od_eq (ge_var (pv 0)) (ge_var (pv 1)) (nomark _))))))) gs_nil) (gs_cons (gs_if (gt_val (ge_isi (T := .str) rfl B.isinstance rfl B.str (by decide +kernel) (ge_var (pv 1)))) (gs_one (gs_ret (ge_and (ge_isi (T := .str) rfl B.isinstance rfl B.str (by decide +kernel) (ge_var (pv 0))) (ge_one (ge_cmp (op_eqD hr.units) od_eq (ge_var (pv 0)) (ge_var (pv 1)) (nomark _)))))) gs_nil) (gs_one (gs_ret (ge_and (gc_P D._law_whole hr (by decide) tk rfl (an_cons an_nil) (ga_cons (ge_var (pv 0)) ga_nil)) (ge_one (ge_cmp (op_eqD hr.units) od_eq (ge_var (pv 0)) (ge_var (pv 1)) (nomark _))))))))
abbrev s__law_thing : Stmt := top 30
theorem sc__law_thing : FnScope ["_law_kind", "_law_cell", "_law_long", "_law_some", "_law_k"] ["_law_kind", "_law_cell", "_law_long"] (defScope s__law_thing) := ⟨rfl, rfl, rfl, by decide +kernel, rfl, by decide +kernel, by decide +kernel⟩
structure D__law_thing (P : Program) (w : World) (K : PySem.W.Frag) (mg : Str → Option Value) (base : Heap) (ct : Ct) : Prop where
  u_ : True
def c__law_thing : En → M Fl := sSeq (sAsg (xBin opMod (xBin (opMulX false) (xVar 1) (xC (.int 48271))) (xC (.int 2147483647))) (.nm 1)) (sSeq (sIf (bOr (bVal (xBin (opEq true) (xVar 0) (xC (.str (PySem.Str.ofString "sum"))))) (bVal (xBin (opEq true) (xVar 0) (xC (.str (PySem.Str.ofString "most")))))) (sSeq (sIf (bVal (xBin (opEq true) (xBin opMod (xVar 1) (xC (.int 4))) (xC (.int 0)))) (sRet (xBin opIx (xLst false (aCons (xC (.int 1000000000000)) (aCons (xUn opNeg (xC (.int 1000000000000))) (aCons (xC (.int 0)) (aCons (xUn opNeg (xC (.int 1))) (aNil)))))) (xBin opMod (xBin opDiv (xVar 1) (xC (.int 4))) (xC (.int 4))))) (sSkip)) (sRet (xBin opIx (xLst false (aCons (xBin opSub (xBin opMod (xBin opDiv (xVar 1) (xC (.int 4))) (xC (.int 21))) (xC (.int 10))) (aCons (xBin opSub (xBin opMod (xBin (opMulX false) (xVar 1) (xC (.int 977))) (xC (.int 2000000000001))) (xC (.int 1000000000000))) (aNil)))) (xBin opMod (xBin opDiv (xVar 1) (xC (.int 4))) (xC (.int 2)))))) (sSkip)) (sSeq (sIf (bVal (xBin (opEq true) (xVar 0) (xC (.str (PySem.Str.ofString "text"))))) (sSeq (sAsg (xC (.str (PySem.Str.ofString "abcdefghijklmnopqrstuvwxyz"))) (.nm 3)) (sRet (xUn (opJoin (PySem.Str.ofString "")) (xLcN false (itR1 (xBin opMod (xVar 1) (xC (.int 7)))) [4] (.nm 4) (bYes) (xBin opIx (xVar 3) (xBin opMod (xBin (opAdd false) (xBin opDiv (xVar 1) (xC (.int 7))) (xBin (opMulX false) (xVar 4) (xBin (opAdd false) (xC (.int 1)) (xBin opMod (xBin opDiv (xVar 1) (xC (.int 31))) (xC (.int 25)))))) (xC (.int 26)))))))) (sSkip)) (sSeq (sIf (bVal (xBin (opEq true) (xVar 0) (xC (.str (PySem.Str.ofString "map"))))) (sRet (xCall opTuple (aCons (xLcN false (itR1 (xVar 2)) [4] (.nm 4) (bYes) (xBin opMod (xBin opDiv (xVar 1) (xBin (opAdd false) (xC (.int 1)) (xBin (opMulX false) (xC (.int 7)) (xVar 4)))) (xVar 2))) (aNil)))) (sSkip)) (sRet (xTup (aCons (xBin opMod (xVar 1) (xC (.int 1000003))) (aCons (xBin opIx (xLst false (aCons (xBin opMod (xBin opDiv (xVar 1) (xC (.int 7))) (xC (.int 1000003))) (aCons (xC (.int 1000002)) (aCons (xC (.int 0)) (aNil))))) (xBin opMod (xBin opDiv (xVar 1) (xC (.int 5))) (xC (.int 3)))) (aNil))))))))
def f__law_thing : List D → Rp := runP c__law_thing 5
theorem d__law_thing (F : ∃ fa fd, mg "_law_thing" = some (.ref fa) ∧ FunG K "_law_thing" s__law_thing fa fd) (B : Bt K mg ct) (T : Xt K mg ct ne) (D : D__law_thing P w K mg base ct) : Dp' P w K mg base 2 "_law_thing" ["_law_kind", "_law_cell", "_law_long"] (spP K ct 3 f__law_thing) := by
  obtain ⟨fa, fd, hm, F⟩ := F
  have nd := sc__law_thing.nd
  refine ⟨fa, fd, hm, F.kp, F.bindsN (fun _ _ _ _ _ _ us hl => match us, hl with | [_, _, _], _ => rfl), def_P (k := 1) F sc__law_thing rfl fun cdv A outer s H E hr => ?_⟩
  have tk := takes_of (X := cxG P w K mg base ["_law_kind", "_law_cell", "_law_long", "_law_some", "_law_k"] "_law_thing" s__law_thing fa cdv A outer s H E) rfl rfl rfl rfl
  exact (gs_cons (gs_asg (t := .nm 1) (ps_set nd rfl (by first | exact .inl rfl | exact .inr rfl) (ge_op op_mod od_mod (ge_op op_mulX (od_mulX false) (ge_var (pv 1)) ge_int) ge_int))) (gs_cons (gs_if (PW.pt (gw_or (gt_cmp (op_eqD hr.units) od_eq (ge_var (pv 0)) ge_str (nomark _)) (gw_or1 (gt_cmp (op_eqD hr.units) od_eq (ge_var (pv 0)) ge_str (nomark _))))) (gs_cons (gs_if (gt_cmp (op_eqD hr.units) od_eq (ge_op op_mod od_mod (ge_var (pv 1)) ge_int) ge_int (nomark _)) (gs_one (gs_ret (ge_ix ix_seq od_ix (ge_lst false (ga_cons ge_int (ga_cons (ge_un un_neg ud_neg ge_int) (ga_cons ge_int (ga_cons (ge_un un_neg ud_neg ge_int) ga_nil))))) (ge_op op_mod od_mod (ge_op op_fdiv od_div (ge_var (pv 1)) ge_int) ge_int) (fun _ _ => rfl)))) gs_nil) (gs_one (gs_ret (ge_ix ix_seq od_ix (ge_lst false (ga_cons (ge_op op_sub od_sub (ge_op op_mod od_mod (ge_op op_fdiv od_div (ge_var (pv 1)) ge_int) ge_int) ge_int) (ga_cons (ge_op op_sub od_sub (ge_op op_mod od_mod (ge_op op_mulX (od_mulX false) (ge_var (pv 1)) ge_int) ge_int) ge_int) ga_nil))) (ge_op op_mod od_mod (ge_op op_fdiv od_div (ge_var (pv 1)) ge_int) ge_int) (fun _ _ => rfl))))) gs_nil) (gs_cons (gs_if (gt_cmp (op_eqD hr.units) od_eq (ge_var (pv 0)) ge_str (nomark _)) (gs_cons (gs_asg (t := .nm 3) (ps_set nd rfl (by first | exact .inl rfl | exact .inr rfl) ge_str)) (gs_one (gs_ret (ge_join (ge_lc false rfl nd (own := [("_law_k", 4)]) (t := .nm 4) (gi_r1 rfl B.range (ge_op op_mod od_mod (ge_var (pv 1)) ge_int)) (blkOk_by (own := [("_law_k", 4)]) (by kernel_rfl)) (by decide) (fun _ _ _ _ _ => (pg_name (i := 4) nd rfl (by first | exact .inl rfl | exact .inr rfl))) (fun _ _ _ _ _ => gts_nil) (fun _ _ _ _ _ => (ge_ix ix_seq od_ix (ge_var (pv 3)) (ge_op op_mod od_mod (ge_op op_addA (od_add false) (ge_op op_fdiv od_div (ge_var (pv 1)) ge_int) (ge_op op_mulX (od_mulX false) (ge_var (pv 4)) (ge_op op_addA (od_add false) ge_int (ge_op op_mod od_mod (ge_op op_fdiv od_div (ge_var (pv 1)) ge_int) ge_int)))) ge_int) (fun _ _ => rfl)))))))) gs_nil) (gs_cons (gs_if (gt_cmp (op_eqD hr.units) od_eq (ge_var (pv 0)) ge_str (nomark _)) (gs_one (gs_ret (ge_callTy call_tuple_of cd_tuple rfl B.tuple (by decide +kernel) (ga_cons (ge_lc false rfl nd (own := [("_law_k", 4)]) (t := .nm 4) (gi_r1 rfl B.range (ge_var (pv 2))) (blkOk_by (own := [("_law_k", 4)]) (by kernel_rfl)) (by decide) (fun _ _ _ _ _ => (pg_name (i := 4) nd rfl (by first | exact .inl rfl | exact .inr rfl))) (fun _ _ _ _ _ => gts_nil) (fun _ _ _ _ _ => (ge_op op_mod od_mod (ge_op op_fdiv od_div (ge_var (pv 1)) (ge_op op_addA (od_add false) ge_int (ge_op op_mulX (od_mulX false) ge_int (ge_var (pv 4))))) (ge_var (pv 2))))) ga_nil)))) gs_nil) (gs_one (gs_ret (ge_tup (ga_cons (ge_op op_mod od_mod (ge_var (pv 1)) ge_int) (ga_cons (ge_ix ix_seq od_ix (ge_lst false (ga_cons (ge_op op_mod od_mod (ge_op op_fdiv od_div (ge_var (pv 1)) ge_int) ge_int) (ga_cons ge_int (ga_cons ge_int ga_nil)))) (ge_op op_mod od_mod (ge_op op_fdiv od_div (ge_var (pv 1)) ge_int) ge_int) (fun _ _ => rfl)) ga_nil)))))))))
abbrev s__law_odd : Stmt := top 31
theorem sc__law_odd : FnScope ["_law_kind", "_law_cell", "_law_long", "_law_some"] ["_law_kind", "_law_cell", "_law_long"] (defScope s__law_odd) := ⟨rfl, rfl, rfl, by decide +kernel, rfl, by decide +kernel, by decide +kernel⟩
structure D__law_odd (P : Program) (w : World) (K : PySem.W.Frag) (mg : Str → Option Value) (base : Heap) (ct : Ct) : Prop where
  u_ : True
def c__law_odd : En → M Fl := sSeq (sAsg (xLst true (aCons (xC (.bl true)) (aCons (xC .non) (aCons (xLst false (aCons (xC (.int 1)) (aNil))) (aCons (xC .dic) (aNil)))))) (.nm 3)) (sSeq (sIf (bOr (bVal (xBin (opEq true) (xVar 0) (xC (.str (PySem.Str.ofString "sum"))))) (bVal (xBin (opEq true) (xVar 0) (xC (.str (PySem.Str.ofString "most")))))) (sAsg (xBin (opAdd true) (xVar 3) (xLst false (aCons (xC (.int 1000000000001)) (aCons (xUn opNeg (xC (.int 1000000000001))) (aCons (xC (.str (PySem.Str.ofString "a"))) (aCons (xTup (aCons (xC (.int 1)) (aCons (xC (.int 2)) (aNil)))) (aNil))))))) (.nm 3)) (sIf (bVal (xBin (opEq true) (xVar 0) (xC (.str (PySem.Str.ofString "text"))))) (sAsg (xBin (opAdd true) (xVar 3) (xLst false (aCons (xBin (opMulX false) (xC (.str (PySem.Str.ofString "a"))) (xC (.int 1001))) (aCons (xC (.str (PySem.Str.ofString "aB"))) (aCons (xC (.str (PySem.Str.ofString "a b"))) (aCons (xC (.int 5)) (aCons (xC (.str (PySem.Str.ofString "a\n"))) (aNil)))))))) (.nm 3)) (sIf (bVal (xBin (opEq true) (xVar 0) (xC (.str (PySem.Str.ofString "map"))))) (sSeq (sAsg (xBin (opAdd true) (xVar 3) (xLst false (aCons (xTup (aNil)) (aCons (xBin (opMulX false) (xTup (aCons (xC (.int 0)) (aNil))) (xC (.int 9))) (aCons (xBin (opAdd false) (xBin (opMulX false) (xTup (aCons (xC (.int 0)) (aNil))) (xBin opSub (xVar 2) (xC (.int 1)))) (xTup (aCons (xVar 2) (aNil)))) (aCons (xBin (opMulX false) (xTup (aCons (xUn opNeg (xC (.int 1))) (aNil))) (xVar 2)) (aCons (xBin (opMulX false) (xTup (aCons (xC (.bl true)) (aNil))) (xVar 2)) (aCons (xBin (opMulX false) (xLst false (aCons (xC (.int 0)) (aNil))) (xVar 2)) (aCons (xTup (aCons (xC (.int 0)) (aCons (xC (.str (PySem.Str.ofString "0"))) (aNil)))) (aNil)))))))))) (.nm 3)) (sDrop (xApp (xVar 3) (xUn (opRg true false) (xBin (opAdd false) (xBin opMod (xVar 2) (xC (.int 8))) (xC (.int 1))))))) (sAsg (xBin (opAdd true) (xVar 3) (xLst false (aCons (xTup (aCons (xC (.int 1)) (aCons (xC (.int 2)) (aCons (xC (.int 3)) (aNil))))) (aCons (xTup (aCons (xC (.int 1)) (aNil))) (aCons (xTup (aCons (xC (.int 1000003)) (aCons (xC (.int 0)) (aNil)))) (aCons (xTup (aCons (xC (.int 0)) (aCons (xUn opNeg (xC (.int 1))) (aNil)))) (aCons (xTup (aCons (xC (.int 0)) (aCons (xC (.bl true)) (aNil)))) (aCons (xLst false (aCons (xC (.int 1)) (aCons (xC (.int 2)) (aNil)))) (aCons (xC (.int 7)) (aNil)))))))))) (.nm 3))))) (sRet (xBin opIx (xVar 3) (xBin opMod (xVar 1) (xCall opLen (aCons (xVar 3) (aNil)))))))
def f__law_odd : List D → Rp := runP c__law_odd 4
theorem d__law_odd (F : ∃ fa fd, mg "_law_odd" = some (.ref fa) ∧ FunG K "_law_odd" s__law_odd fa fd) (B : Bt K mg ct) (T : Xt K mg ct ne) (D : D__law_odd P w K mg base ct) : Dp' P w K mg base 2 "_law_odd" ["_law_kind", "_law_cell", "_law_long"] (spP K ct 3 f__law_odd) := by
  obtain ⟨fa, fd, hm, F⟩ := F
  have nd := sc__law_odd.nd
  refine ⟨fa, fd, hm, F.kp, F.bindsN (fun _ _ _ _ _ _ us hl => match us, hl with | [_, _, _], _ => rfl), def_P (k := 1) F sc__law_odd rfl fun cdv A outer s H E hr => ?_⟩
  have tk := takes_of (X := cxG P w K mg base ["_law_kind", "_law_cell", "_law_long", "_law_some"] "_law_odd" s__law_odd fa cdv A outer s H E) rfl rfl rfl rfl
  exact (gs_cons (gs_asg (t := .nm 3) (ps_set nd rfl (by first | exact .inl rfl | exact .inr rfl) (ge_lst true (ga_cons ge_bl (ga_cons ge_non (ga_cons (ge_lst false (ga_cons ge_int ga_nil)) (ga_cons ge_dic ga_nil))))))) (gs_cons (gs_if (PW.pt (gw_or (gt_cmp (op_eqD hr.units) od_eq (ge_var (pv 0)) ge_str (nomark _)) (gw_or1 (gt_cmp (op_eqD hr.units) od_eq (ge_var (pv 0)) ge_str (nomark _))))) (gs_one (gs_asg (t := .nm 3) (ps_set nd rfl (by first | exact .inl rfl | exact .inr rfl) (ge_op op_addA (od_add true) (ge_var (pv 3)) (ge_lst false (ga_cons ge_int (ga_cons (ge_un un_neg ud_neg ge_int) (ga_cons ge_str (ga_cons (ge_tup (ga_cons ge_int (ga_cons ge_int ga_nil))) ga_nil))))))))) (gs_one (gs_if (gt_cmp (op_eqD hr.units) od_eq (ge_var (pv 0)) ge_str (nomark _)) (gs_one (gs_asg (t := .nm 3) (ps_set nd rfl (by first | exact .inl rfl | exact .inr rfl) (ge_op op_addA (od_add true) (ge_var (pv 3)) (ge_lst false (ga_cons (ge_op op_mulX (od_mulX false) ge_str ge_int) (ga_cons ge_str (ga_cons ge_str (ga_cons ge_int (ga_cons ge_str ga_nil)))))))))) (gs_one (gs_if (gt_cmp (op_eqD hr.units) od_eq (ge_var (pv 0)) ge_str (nomark _)) (gs_cons (gs_asg (t := .nm 3) (ps_set nd rfl (by first | exact .inl rfl | exact .inr rfl) (ge_op op_addA (od_add true) (ge_var (pv 3)) (ge_lst false (ga_cons (ge_tup ga_nil) (ga_cons (ge_op op_mulX (od_mulX false) (ge_tup (ga_cons ge_int ga_nil)) ge_int) (ga_cons (ge_op op_addA (od_add false) (ge_op op_mulX (od_mulX false) (ge_tup (ga_cons ge_int ga_nil)) (ge_op op_sub od_sub (ge_var (pv 2)) ge_int)) (ge_tup (ga_cons (ge_var (pv 2)) ga_nil))) (ga_cons (ge_op op_mulX (od_mulX false) (ge_tup (ga_cons (ge_un un_neg ud_neg ge_int) ga_nil)) (ge_var (pv 2))) (ga_cons (ge_op op_mulX (od_mulX false) (ge_tup (ga_cons ge_bl ga_nil)) (ge_var (pv 2))) (ga_cons (ge_op op_mulX (od_mulX false) (ge_lst false (ga_cons ge_int ga_nil)) (ge_var (pv 2))) (ga_cons (ge_tup (ga_cons ge_int (ga_cons ge_str ga_nil))) ga_nil))))))))))) (gs_one (gs_drop (ge_app (ge_var (pv 3)) (ge_tupRg rfl rfl B.tuple rfl B.range (ge_op op_addA (od_add false) (ge_op op_mod od_mod (ge_var (pv 2)) ge_int) ge_int)))))) (gs_one (gs_asg (t := .nm 3) (ps_set nd rfl (by first | exact .inl rfl | exact .inr rfl) (ge_op op_addA (od_add true) (ge_var (pv 3)) (ge_lst false (ga_cons (ge_tup (ga_cons ge_int (ga_cons ge_int (ga_cons ge_int ga_nil)))) (ga_cons (ge_tup (ga_cons ge_int ga_nil)) (ga_cons (ge_tup (ga_cons ge_int (ga_cons ge_int ga_nil))) (ga_cons (ge_tup (ga_cons ge_int (ga_cons (ge_un un_neg ud_neg ge_int) ga_nil))) (ga_cons (ge_tup (ga_cons ge_int (ga_cons ge_bl ga_nil))) (ga_cons (ge_lst false (ga_cons ge_int (ga_cons ge_int ga_nil))) (ga_cons ge_int ga_nil))))))))))))))))) (gs_one (gs_ret (ge_ix ix_seq od_ix (ge_var (pv 3)) (ge_op op_mod od_mod (ge_var (pv 1)) (ge_callB call_len cd_len rfl B.len PySem.boot_len (ga_cons (ge_var (pv 3)) ga_nil))) (fun _ _ => rfl))))))
abbrev s__law_word : Stmt := top 32
theorem sc__law_word : FnScope ["_law_e", "_law_mine"] ["_law_e"] (defScope s__law_word) := ⟨rfl, rfl, rfl, by decide +kernel, rfl, by decide +kernel, by decide +kernel⟩
structure D__law_word (P : Program) (w : World) (K : PySem.W.Frag) (mg : Str → Option Value) (base : Heap) (ct : Ct) : Prop where
  u_ : True
theorem d__law_word (F : ∃ fa fd, mg "_law_word" = some (.ref fa) ∧ FunG K "_law_word" s__law_word fa fd) (B : Bt K mg ct) (T : Xt K mg ct ne) (D : D__law_word P w K mg base ct) : DpE P w K mg base ct 2 := by
  obtain ⟨fa, fd, hm, F⟩ := F
  have nd := sc__law_word.nd
  refine ⟨fa, fd, hm, F.kp, F.bindsN (fun _ _ _ _ _ _ us hl => match us, hl with | [_], _ => rfl), def_E (k := 1) F sc__law_word fun cdv A outer s H vs Q p h => ?_⟩
  obtain ⟨y, rfl, hz, hf, hq⟩ := h
  refine ⟨_, pss_cons (ps_set (i := 1) nd rfl (by first | exact .inl rfl | exact .inr rfl) (pe_lst (pa_cons (pe_xOwn (X := cxE P w K mg base ["_law_e", "_law_mine"] "_law_word" s__law_word fa cdv A outer s H p) (T.ex y) List.mem_cons_self hz hf B.isinstance B.x_kind.mg (T.is4 y .kind) (pv 0) rfl rfl) (pa_cons (pe_xOwn (X := cxE P w K mg base ["_law_e", "_law_mine"] "_law_word" s__law_word fa cdv A outer s H p) (T.ex y) List.mem_cons_self hz hf B.isinstance B.x_thing.mg (T.is4 y .thing) (pv 0) rfl rfl) (pa_cons (pe_xOwn (X := cxE P w K mg base ["_law_e", "_law_mine"] "_law_word" s__law_word fa cdv A outer s H p) (T.ex y) List.mem_cons_self hz hf B.isinstance B.x_lines.mg (T.is4 y .lines) (pv 0) rfl rfl) (pa_cons (pe_xOwn (X := cxE P w K mg base ["_law_e", "_law_mine"] "_law_word" s__law_word fa cdv A outer s H p) (T.ex y) List.mem_cons_self hz hf B.isinstance T.mgN (T.isN y) (pv 0) rfl rfl) pa_nil)))))) (pss_cons (ps_expr (pe_bm PySem.F.plainAttrs_list PySem.F.slot_list_append PySem.F.type_list_append mt_append (pv 1) (pa_cons (pe_xOwn (X := cxE P w K mg base ["_law_e", "_law_mine"] "_law_word" s__law_word fa cdv A outer s H p) (T.ex y) List.mem_cons_self hz hf B.isinstance B.x_nonet.mg (T.is4 y .nonet) (pv 0) rfl rfl) pa_nil))) (pss_cons (ps_if (PW.pt (pw_or (pt_cmpR op_ne (pe_bm PySem.F.plainAttrs_list PySem.F.slot_list_count PySem.F.type_list_count mt_countF (pv 1) (pa_cons pe_bl pa_nil)) pe_int (nomark _)) (pw_or1 (pt_not (pt_val (pe_xVal (X := cxE P w K mg base ["_law_e", "_law_mine"] "_law_word" s__law_word fa cdv A outer s H p) (T.ex y) List.mem_cons_self hz hf B.isinstance T.mgV (T.isV y) (pv 0) rfl rfl)))))) (pss_one (ps_ret (pe_lst (pa_cons pe_str pa_nil)))) pss_nil) (pss_one (ps_ret (pe_lst (pa_cons (pe_ix ix_seq (pe_lst (pa_cons pe_str (pa_cons pe_str (pa_cons pe_str (pa_cons pe_str (pa_cons pe_str pa_nil)))))) (pe_bm PySem.F.plainAttrs_list PySem.F.slot_list_index PySem.F.type_list_index mt_index (pv 1) (pa_cons pe_bl pa_nil)) (fun _ _ => rfl)) pa_nil)))))), ?_⟩
  exact word_wish hq
abbrev s__law_tried : Stmt := top 33
theorem sc__law_tried : FnScope ["_law_kind", "_law_one", "_law_other", "_law_e"] ["_law_kind", "_law_one", "_law_other"] (defScope s__law_tried) := ⟨rfl, rfl, rfl, by decide +kernel, rfl, by decide +kernel, by decide +kernel⟩
structure D__law_tried (P : Program) (w : World) (K : PySem.W.Frag) (mg : Str → Option Value) (base : Heap) (ct : Ct) : Prop where
  joined : Dp' P w K mg base 7 "joined" ["kind", "one", "other"] (spP K ct 3 f_joined)
  _law_word : DpE P w K mg base ct 2
  u_ : True
def c__law_tried : En → M Fl := sTryW 3 (sRet (xTup (aCons (xCallP f_joined (aCons (xVar 0) (aCons (xVar 1) (aCons (xVar 2) (aNil))))) (aNil))))
def f__law_tried : List D → Rp := runP c__law_tried 4
theorem d__law_tried (F : ∃ fa fd, mg "_law_tried" = some (.ref fa) ∧ FunG K "_law_tried" s__law_tried fa fd) (B : Bt K mg ct) (T : Xt K mg ct ne) (D : D__law_tried P w K mg base ct) : Dp' P w K mg base 8 "_law_tried" ["_law_kind", "_law_one", "_law_other"] (spP K ct 3 f__law_tried) := by
  obtain ⟨fa, fd, hm, F⟩ := F
  have nd := sc__law_tried.nd
  refine ⟨fa, fd, hm, F.kp, F.bindsN (fun _ _ _ _ _ _ us hl => match us, hl with | [_, _, _], _ => rfl), def_P (k := 7) F sc__law_tried rfl fun cdv A outer s H E hr => ?_⟩
  have tk := takes_of (X := cxG P w K mg base ["_law_kind", "_law_one", "_law_other", "_law_e"] "_law_tried" s__law_tried fa cdv A outer s H E) rfl rfl rfl rfl
  exact (gs_one (gs_tryW (i := 3) T rfl rfl nd rfl rfl rfl tk hr (by decide) D._law_word rfl (fun a pn => (pv 3)) rfl (fun W pn xe tk hp => (gs_one (gs_ret (ge_tup (ga_cons (gc_P D.joined hr (by decide) tk rfl (an_cons (an_cons (an_cons an_nil))) (ga_cons (ge_var (pv 0)) (ga_cons (ge_var (pv 1)) (ga_cons (ge_var (pv 2)) ga_nil)))) ga_nil)))))))
abbrev s__law_needed : Stmt := top 34
theorem sc__law_needed : FnScope ["_law_kind", "_law_thing_here", "_law_e"] ["_law_kind", "_law_thing_here"] (defScope s__law_needed) := ⟨rfl, rfl, rfl, by decide +kernel, rfl, by decide +kernel, by decide +kernel⟩
structure D__law_needed (P : Program) (w : World) (K : PySem.W.Frag) (mg : Str → Option Value) (base : Heap) (ct : Ct) : Prop where
  need_thing : Dp' P w K mg base 6 "need_thing" ["kind", "thing"] (spP K ct 2 f_need_thing)
  _law_word : DpE P w K mg base ct 2
  u_ : True
def c__law_needed : En → M Fl := sTryW 2 (sRet (xTup (aCons (xCallP f_need_thing (aCons (xVar 0) (aCons (xVar 1) (aNil)))) (aNil))))
def f__law_needed : List D → Rp := runP c__law_needed 3
theorem d__law_needed (F : ∃ fa fd, mg "_law_needed" = some (.ref fa) ∧ FunG K "_law_needed" s__law_needed fa fd) (B : Bt K mg ct) (T : Xt K mg ct ne) (D : D__law_needed P w K mg base ct) : Dp' P w K mg base 7 "_law_needed" ["_law_kind", "_law_thing_here"] (spP K ct 2 f__law_needed) := by
  obtain ⟨fa, fd, hm, F⟩ := F
  have nd := sc__law_needed.nd
  refine ⟨fa, fd, hm, F.kp, F.bindsN (fun _ _ _ _ _ _ us hl => match us, hl with | [_, _], _ => rfl), def_P (k := 6) F sc__law_needed rfl fun cdv A outer s H E hr => ?_⟩
  have tk := takes_of (X := cxG P w K mg base ["_law_kind", "_law_thing_here", "_law_e"] "_law_needed" s__law_needed fa cdv A outer s H E) rfl rfl rfl rfl
  exact (gs_one (gs_tryW (i := 2) T rfl rfl nd rfl rfl rfl tk hr (by decide) D._law_word rfl (fun a pn => (pv 2)) rfl (fun W pn xe tk hp => (gs_one (gs_ret (ge_tup (ga_cons (gc_P D.need_thing hr (by decide) tk rfl (an_cons (an_cons an_nil)) (ga_cons (ge_var (pv 0)) (ga_cons (ge_var (pv 1)) ga_nil))) ga_nil)))))))
abbrev s_law : Stmt := top 35
theorem sc_law : FnScope ["_law_script", "_law_kind", "_law_long", "_law_things", "_law_cell", "_law_odd_here", "_law_pair", "_law_bad", "_law_alone", "_law_found", "_law_due", "_law_left", "_law_again", "_law_k"] ["_law_script"] (defScope s_law) := ⟨rfl, rfl, rfl, by decide +kernel, rfl, by decide +kernel, by decide +kernel⟩
structure D_law (P : Program) (w : World) (K : PySem.W.Frag) (mg : Str → Option Value) (base : Heap) (ct : Ct) : Prop where
  _law_cell_at : Dp' P w K mg base 2 "_law_cell_at" ["_law_script", "_law_k"] (spP K ct 2 f__law_cell_at)
  _law_thing : Dp' P w K mg base 2 "_law_thing" ["_law_kind", "_law_cell", "_law_long"] (spP K ct 3 f__law_thing)
  _law_odd : Dp' P w K mg base 2 "_law_odd" ["_law_kind", "_law_cell", "_law_long"] (spP K ct 3 f__law_odd)
  _law_tried : Dp' P w K mg base 8 "_law_tried" ["_law_kind", "_law_one", "_law_other"] (spP K ct 3 f__law_tried)
  _law_needed : Dp' P w K mg base 7 "_law_needed" ["_law_kind", "_law_thing_here"] (spP K ct 2 f__law_needed)
  _law_join : Dp' P w K mg base 2 "_law_join" ["_law_kind", "_law_one", "_law_other"] (spP K ct 3 f__law_join)
  _law_alike : Dp' P w K mg base 3 "_law_alike" ["_law_found", "_law_due"] (spP K ct 2 f__law_alike)
  joined : Dp' P w K mg base 7 "joined" ["kind", "one", "other"] (spP K ct 3 f_joined)
  u_ : True
def c_law : En → M Fl := sSeq (sAsg (xBin opIx (xLst false (aCons (xC (.str (PySem.Str.ofString "sum"))) (aCons (xC (.str (PySem.Str.ofString "most"))) (aCons (xC (.str (PySem.Str.ofString "text"))) (aCons (xC (.str (PySem.Str.ofString "map"))) (aCons (xC (.str (PySem.Str.ofString "step"))) (aNil))))))) (xBin opMod (xCallP f__law_cell_at (aCons (xVar 0) (aCons (xC (.int 0)) (aNil)))) (xC (.int 5)))) (.nm 1)) (sSeq (sAsg (xBin (opAdd false) (xC (.int 1)) (xBin opMod (xBin opDiv (xCallP f__law_cell_at (aCons (xVar 0) (aCons (xC (.int 0)) (aNil)))) (xC (.int 5))) (xC (.int 8)))) (.nm 2)) (sSeq (sAsg (xLcN false (itR1 (xC (.int 3))) [13] (.nm 13) (bYes) (xCallP f__law_thing (aCons (xVar 1) (aCons (xCallP f__law_cell_at (aCons (xVar 0) (aCons (xBin (opAdd false) (xC (.int 1)) (xVar 13)) (aNil)))) (aCons (xVar 2) (aNil)))))) (.nm 3)) (sSeq (sAsg (xBin opMod (xBin (opMulX false) (xCallP f__law_cell_at (aCons (xVar 0) (aCons (xC (.int 4)) (aNil)))) (xC (.int 48271))) (xC (.int 2147483647))) (.nm 4)) (sSeq (sIf (bVal (xBin (opEq true) (xBin opMod (xVar 4) (xC (.int 4))) (xC (.int 1)))) (sSeq (sAsg (xCallP f__law_odd (aCons (xVar 1) (aCons (xBin opDiv (xVar 4) (xC (.int 32))) (aCons (xVar 2) (aNil))))) (.nm 5)) (sSeq (sAsg (xBin opIx (xLst false (aCons (xLst false (aCons (xVar 5) (aCons (xBin opIx (xVar 3) (xC (.int 1))) (aNil)))) (aCons (xLst false (aCons (xBin opIx (xVar 3) (xC (.int 0))) (aCons (xVar 5) (aNil)))) (aNil)))) (xBin opMod (xBin opDiv (xVar 4) (xC (.int 4))) (xC (.int 2)))) (.nm 6)) (sSeq (sIf (bVal (xBin (opEq true) (xBin opMod (xBin opDiv (xVar 4) (xC (.int 8))) (xC (.int 4))) (xC (.int 1)))) (sSeq (sAsg (xBin opIx (xLst false (aCons (xC (.str (PySem.Str.ofString "Sum"))) (aCons (xC (.str (PySem.Str.ofString ""))) (aCons (xC .non) (aCons (xC (.int 5)) (aCons (xC (.str (PySem.Str.ofString "texts"))) (aCons (xTup (aCons (xC (.str (PySem.Str.ofString "sum"))) (aNil))) (aCons (xC (.str (PySem.Str.ofString "ma"))) (aNil))))))))) (xBin opMod (xBin opDiv (xVar 4) (xC (.int 32))) (xC (.int 7)))) (.nm 7)) (sRet (xAnd (xBin (opEq true) (xCallP f__law_tried (aCons (xVar 7) (aCons (xBin opIx (xVar 6) (xC (.int 0))) (aCons (xBin opIx (xVar 6) (xC (.int 1))) (aNil))))) (xLst false (aCons (xC (.str (PySem.Str.ofString "kind"))) (aNil)))) (xBin (opEq true) (xCallP f__law_needed (aCons (xVar 7) (aCons (xBin opIx (xVar 3) (xC (.int 0))) (aNil)))) (xLst false (aCons (xC (.str (PySem.Str.ofString "kind"))) (aNil))))))) (sSkip)) (sSeq (sAsg (xAnd (xBin (opEq true) (xVar 1) (xC (.str (PySem.Str.ofString "map")))) (xAnd (xUn (opIs .tuple) (xVar 5)) (xBin (opEq true) (xVar 5) (xUn (opRg true false) (xBin (opAdd false) (xBin opMod (xVar 2) (xC (.int 8))) (xC (.int 1))))))) (.nm 8)) (sSeq (sIf (bVal (xBin (opEq false) (xCallP f__law_tried (aCons (xVar 1) (aCons (xBin opIx (xVar 6) (xC (.int 0))) (aCons (xBin opIx (xVar 6) (xC (.int 1))) (aNil))))) (xLst false (aCons (xC (.str (PySem.Str.ofString "thing"))) (aNil))))) (sRet (xC (.bl false))) (sSkip)) (sRet (xBin (opEq true) (xCallP f__law_needed (aCons (xVar 1) (aCons (xVar 5) (aNil)))) (xBin opIx (xLst false (aCons (xLst false (aCons (xC (.str (PySem.Str.ofString "thing"))) (aNil))) (aCons (xTup (aCons (xC .non) (aNil))) (aNil)))) (xCall opInt (aCons (xVar 8) (aNil))))))))))) (sSkip)) (sSeq (sAsg (xCallP f__law_tried (aCons (xVar 1) (aCons (xBin opIx (xVar 3) (xC (.int 0))) (aCons (xBin opIx (xVar 3) (xC (.int 1))) (aNil))))) (.nm 9)) (sSeq (sAsg (xCallP f__law_join (aCons (xVar 1) (aCons (xBin opIx (xVar 3) (xC (.int 0))) (aCons (xBin opIx (xVar 3) (xC (.int 1))) (aNil))))) (.nm 10)) (sSeq (sIf (bOr (bNot (bVal (xUn (opIs .tuple) (xVar 9)))) (bOr (bNot (bVal (xCallP f__law_alike (aCons (xBin opIx (xVar 9) (xC (.int 0))) (aCons (xVar 10) (aNil)))))) (bVal (xBin (opEq false) (xCallP f__law_needed (aCons (xVar 1) (aCons (xBin opIx (xVar 3) (xC (.int 2))) (aNil)))) (xTup (aCons (xC .non) (aNil))))))) (sRet (xC (.bl false))) (sSkip)) (sSeq (sAsg (xCallP f__law_join (aCons (xVar 1) (aCons (xVar 10) (aCons (xBin opIx (xVar 3) (xC (.int 2))) (aNil))))) (.nm 11)) (sSeq (sIf (bAnd (bVal (xBin (opEq true) (xVar 1) (xC (.str (PySem.Str.ofString "sum"))))) (bVal (xBin opGt (xCall opAbs (aCons (xVar 10) (aNil))) (xC (.int 1000000000000))))) (sRet (xC (.bl true))) (sSkip)) (sSeq (sAsg (xCallP f_joined (aCons (xVar 1) (aCons (xBin opIx (xVar 9) (xC (.int 0))) (aCons (xBin opIx (xVar 3) (xC (.int 2))) (aNil))))) (.nm 12)) (sSeq (sIf (bAnd (bVal (xBin (opEq true) (xVar 1) (xC (.str (PySem.Str.ofString "sum"))))) (bVal (xBin opGt (xCall opAbs (aCons (xBin (opAdd false) (xBin opIx (xVar 3) (xC (.int 1))) (xBin opIx (xVar 3) (xC (.int 2)))) (aNil))) (xC (.int 1000000000000))))) (sRet (xCallP f__law_alike (aCons (xVar 12) (aCons (xVar 11) (aNil))))) (sSkip)) (sRet (xAnd (xCallP f__law_alike (aCons (xVar 12) (aCons (xVar 11) (aNil)))) (xBin (opEq true) (xCallP f_joined (aCons (xVar 1) (aCons (xBin opIx (xVar 3) (xC (.int 0))) (aCons (xCallP f_joined (aCons (xVar 1) (aCons (xBin opIx (xVar 3) (xC (.int 1))) (aCons (xBin opIx (xVar 3) (xC (.int 2))) (aNil))))) (aNil))))) (xVar 12)))))))))))))))
def f_law : List D → Rp := runP c_law 14
theorem d_law {fa : Addr} {fd : FuncData} (F : FunG K "law" s_law fa fd) (B : Bt K mg ct) (T : Xt K mg ct ne) (D : D_law P w K mg base ct) : FnP P w K mg base 9 fa fd ["_law_script"] (spP K ct 1 f_law) := by
  have nd := sc_law.nd
  refine def_P (k := 8) F sc_law rfl fun cdv A outer s H E hr => ?_
  have tk := takes_of (X := cxG P w K mg base ["_law_script", "_law_kind", "_law_long", "_law_things", "_law_cell", "_law_odd_here", "_law_pair", "_law_bad", "_law_alone", "_law_found", "_law_due", "_law_left", "_law_again", "_law_k"] "law" s_law fa cdv A outer s H E) rfl rfl rfl rfl
  exact (gs_cons (gs_asg (t := .nm 1) (ps_set nd rfl (by first | exact .inl rfl | exact .inr rfl) (ge_ix ix_seq od_ix (ge_lst false (ga_cons ge_str (ga_cons ge_str (ga_cons ge_str (ga_cons ge_str (ga_cons ge_str ga_nil)))))) (ge_op op_mod od_mod (gc_P D._law_cell_at hr (by decide) tk rfl (an_cons (an_cons an_nil)) (ga_cons (ge_var (pv 0)) (ga_cons ge_int ga_nil))) ge_int) (fun _ _ => rfl)))) (gs_cons (gs_asg (t := .nm 2) (ps_set nd rfl (by first | exact .inl rfl | exact .inr rfl) (ge_op op_addA (od_add false) ge_int (ge_op op_mod od_mod (ge_op op_fdiv od_div (gc_P D._law_cell_at hr (by decide) tk rfl (an_cons (an_cons an_nil)) (ga_cons (ge_var (pv 0)) (ga_cons ge_int ga_nil))) ge_int) ge_int)))) (gs_cons (gs_lc (own := [("_law_k", 13)]) (t := .nm 13) (i := 3) (c := false) (by decide) (ps_setLc rfl nd rfl rfl (sw_true rfl rfl rfl (by decide +kernel)) (own := [("_law_k", 13)]) (gi_r1 rfl B.range ge_int) (blkOk_by (own := [("_law_k", 13)]) (by kernel_rfl)) (fun _ _ _ _ _ => (pg_name (i := 13) nd rfl (by first | exact .inl rfl | exact .inr rfl))) (fun _ _ _ _ _ => gts_nil) (fun _ _ _ _ _ => (gc_P D._law_thing hr (by decide) takes0 rfl (an_cons (an_cons (an_cons an_nil))) (ga_cons (ge_var (pv 1)) (ga_cons (gc_P D._law_cell_at hr (by decide) takes0 rfl (an_cons (an_cons an_nil)) (ga_cons (ge_var (pv 0)) (ga_cons (ge_op op_addA (od_add false) ge_int (ge_var (pv 13))) ga_nil))) (ga_cons (ge_var (pv 2)) ga_nil))))))) (gs_cons (gs_asg (t := .nm 4) (ps_set nd rfl (by first | exact .inl rfl | exact .inr rfl) (ge_op op_mod od_mod (ge_op op_mulX (od_mulX false) (gc_P D._law_cell_at hr (by decide) tk rfl (an_cons (an_cons an_nil)) (ga_cons (ge_var (pv 0)) (ga_cons ge_int ga_nil))) ge_int) ge_int))) (gs_cons (gs_if (gt_cmp (op_eqD hr.units) od_eq (ge_op op_mod od_mod (ge_var (pv 4)) ge_int) ge_int (nomark _)) (gs_cons (gs_asg (t := .nm 5) (ps_set nd rfl (by first | exact .inl rfl | exact .inr rfl) (gc_P D._law_odd hr (by decide) tk rfl (an_cons (an_cons (an_cons an_nil))) (ga_cons (ge_var (pv 1)) (ga_cons (ge_op op_fdiv od_div (ge_var (pv 4)) ge_int) (ga_cons (ge_var (pv 2)) ga_nil)))))) (gs_cons (gs_asg (t := .nm 6) (ps_set nd rfl (by first | exact .inl rfl | exact .inr rfl) (ge_ix ix_seq od_ix (ge_lst false (ga_cons (ge_lst false (ga_cons (ge_var (pv 5)) (ga_cons (ge_ix ix_seq od_ix (ge_var (pv 3)) ge_int (fun _ _ => rfl)) ga_nil))) (ga_cons (ge_lst false (ga_cons (ge_ix ix_seq od_ix (ge_var (pv 3)) ge_int (fun _ _ => rfl)) (ga_cons (ge_var (pv 5)) ga_nil))) ga_nil))) (ge_op op_mod od_mod (ge_op op_fdiv od_div (ge_var (pv 4)) ge_int) ge_int) (fun _ _ => rfl)))) (gs_cons (gs_if (gt_cmp (op_eqD hr.units) od_eq (ge_op op_mod od_mod (ge_op op_fdiv od_div (ge_var (pv 4)) ge_int) ge_int) ge_int (nomark _)) (gs_cons (gs_asg (t := .nm 7) (ps_set nd rfl (by first | exact .inl rfl | exact .inr rfl) (ge_ix ix_seq od_ix (ge_lst false (ga_cons ge_str (ga_cons ge_str (ga_cons ge_non (ga_cons ge_int (ga_cons ge_str (ga_cons (ge_tup (ga_cons ge_str ga_nil)) (ga_cons ge_str ga_nil)))))))) (ge_op op_mod od_mod (ge_op op_fdiv od_div (ge_var (pv 4)) ge_int) ge_int) (fun _ _ => rfl)))) (gs_one (gs_ret (ge_and (ge_cmp (op_eqD hr.units) od_eq (gc_P D._law_tried hr (by decide) tk rfl (an_cons (an_cons (an_cons an_nil))) (ga_cons (ge_var (pv 7)) (ga_cons (ge_ix ix_seq od_ix (ge_var (pv 6)) ge_int (fun _ _ => rfl)) (ga_cons (ge_ix ix_seq od_ix (ge_var (pv 6)) ge_int (fun _ _ => rfl)) ga_nil)))) (ge_lst false (ga_cons ge_str ga_nil)) (nomark _)) (ge_one (ge_cmp (op_eqD hr.units) od_eq (gc_P D._law_needed hr (by decide) tk rfl (an_cons (an_cons an_nil)) (ga_cons (ge_var (pv 7)) (ga_cons (ge_ix ix_seq od_ix (ge_var (pv 3)) ge_int (fun _ _ => rfl)) ga_nil))) (ge_lst false (ga_cons ge_str ga_nil)) (nomark _))))))) gs_nil) (gs_cons (gs_asg (t := .nm 8) (ps_set nd rfl (by first | exact .inl rfl | exact .inr rfl) (ge_and (ge_cmp (op_eqD hr.units) od_eq (ge_var (pv 1)) ge_str (nomark _)) (ge_and (ge_isi (T := .tuple) rfl B.isinstance rfl B.tuple (by decide +kernel) (ge_var (pv 5))) (ge_one (ge_cmp (op_eqD hr.units) od_eq (ge_var (pv 5)) (ge_tupRg rfl rfl B.tuple rfl B.range (ge_op op_addA (od_add false) (ge_op op_mod od_mod (ge_var (pv 2)) ge_int) ge_int)) (nomark _))))))) (gs_cons (gs_if (gt_cmp (op_neD hr.units) od_ne (gc_P D._law_tried hr (by decide) tk rfl (an_cons (an_cons (an_cons an_nil))) (ga_cons (ge_var (pv 1)) (ga_cons (ge_ix ix_seq od_ix (ge_var (pv 6)) ge_int (fun _ _ => rfl)) (ga_cons (ge_ix ix_seq od_ix (ge_var (pv 6)) ge_int (fun _ _ => rfl)) ga_nil)))) (ge_lst false (ga_cons ge_str ga_nil)) (nomark _)) (gs_one (gs_ret ge_bl)) gs_nil) (gs_one (gs_ret (ge_cmp (op_eqD hr.units) od_eq (gc_P D._law_needed hr (by decide) tk rfl (an_cons (an_cons an_nil)) (ga_cons (ge_var (pv 1)) (ga_cons (ge_var (pv 5)) ga_nil))) (ge_ix ix_seq od_ix (ge_lst false (ga_cons (ge_lst false (ga_cons ge_str ga_nil)) (ga_cons (ge_tup (ga_cons ge_non ga_nil)) ga_nil))) (ge_callTy call_int1 cd_int rfl B.int (by decide +kernel) (ga_cons (ge_var (pv 8)) ga_nil)) (fun _ _ => rfl)) (nomark _))))))))) gs_nil) (gs_cons (gs_asg (t := .nm 9) (ps_set nd rfl (by first | exact .inl rfl | exact .inr rfl) (gc_P D._law_tried hr (by decide) tk rfl (an_cons (an_cons (an_cons an_nil))) (ga_cons (ge_var (pv 1)) (ga_cons (ge_ix ix_seq od_ix (ge_var (pv 3)) ge_int (fun _ _ => rfl)) (ga_cons (ge_ix ix_seq od_ix (ge_var (pv 3)) ge_int (fun _ _ => rfl)) ga_nil)))))) (gs_cons (gs_asg (t := .nm 10) (ps_set nd rfl (by first | exact .inl rfl | exact .inr rfl) (gc_P D._law_join hr (by decide) tk rfl (an_cons (an_cons (an_cons an_nil))) (ga_cons (ge_var (pv 1)) (ga_cons (ge_ix ix_seq od_ix (ge_var (pv 3)) ge_int (fun _ _ => rfl)) (ga_cons (ge_ix ix_seq od_ix (ge_var (pv 3)) ge_int (fun _ _ => rfl)) ga_nil)))))) (gs_cons (gs_if (PW.pt (gw_or (gt_not (gt_val (ge_isi (T := .tuple) rfl B.isinstance rfl B.tuple (by decide +kernel) (ge_var (pv 9))))) (gw_or (gt_not (gt_val (gc_P D._law_alike hr (by decide) tk rfl (an_cons (an_cons an_nil)) (ga_cons (ge_ix ix_seq od_ix (ge_var (pv 9)) ge_int (fun _ _ => rfl)) (ga_cons (ge_var (pv 10)) ga_nil))))) (gw_or1 (gt_cmp (op_neD hr.units) od_ne (gc_P D._law_needed hr (by decide) tk rfl (an_cons (an_cons an_nil)) (ga_cons (ge_var (pv 1)) (ga_cons (ge_ix ix_seq od_ix (ge_var (pv 3)) ge_int (fun _ _ => rfl)) ga_nil))) (ge_tup (ga_cons ge_non ga_nil)) (nomark _)))))) (gs_one (gs_ret ge_bl)) gs_nil) (gs_cons (gs_asg (t := .nm 11) (ps_set nd rfl (by first | exact .inl rfl | exact .inr rfl) (gc_P D._law_join hr (by decide) tk rfl (an_cons (an_cons (an_cons an_nil))) (ga_cons (ge_var (pv 1)) (ga_cons (ge_var (pv 10)) (ga_cons (ge_ix ix_seq od_ix (ge_var (pv 3)) ge_int (fun _ _ => rfl)) ga_nil)))))) (gs_cons (gs_if (PW.pt (gw_and (gt_cmp (op_eqD hr.units) od_eq (ge_var (pv 1)) ge_str (nomark _)) (gw_and1 (gt_cmp op_gt od_gt (ge_callB call_abs cd_abs rfl B.abs (by decide +kernel) (ga_cons (ge_var (pv 10)) ga_nil)) ge_int (nomark _))))) (gs_one (gs_ret ge_bl)) gs_nil) (gs_cons (gs_asg (t := .nm 12) (ps_set nd rfl (by first | exact .inl rfl | exact .inr rfl) (gc_P D.joined hr (by decide) tk rfl (an_cons (an_cons (an_cons an_nil))) (ga_cons (ge_var (pv 1)) (ga_cons (ge_ix ix_seq od_ix (ge_var (pv 9)) ge_int (fun _ _ => rfl)) (ga_cons (ge_ix ix_seq od_ix (ge_var (pv 3)) ge_int (fun _ _ => rfl)) ga_nil)))))) (gs_cons (gs_if (PW.pt (gw_and (gt_cmp (op_eqD hr.units) od_eq (ge_var (pv 1)) ge_str (nomark _)) (gw_and1 (gt_cmp op_gt od_gt (ge_callB call_abs cd_abs rfl B.abs (by decide +kernel) (ga_cons (ge_op op_addA (od_add false) (ge_ix ix_seq od_ix (ge_var (pv 3)) ge_int (fun _ _ => rfl)) (ge_ix ix_seq od_ix (ge_var (pv 3)) ge_int (fun _ _ => rfl))) ga_nil)) ge_int (nomark _))))) (gs_one (gs_ret (gc_P D._law_alike hr (by decide) tk rfl (an_cons (an_cons an_nil)) (ga_cons (ge_var (pv 12)) (ga_cons (ge_var (pv 11)) ga_nil))))) gs_nil) (gs_one (gs_ret (ge_and (gc_P D._law_alike hr (by decide) tk rfl (an_cons (an_cons an_nil)) (ga_cons (ge_var (pv 12)) (ga_cons (ge_var (pv 11)) ga_nil))) (ge_one (ge_cmp (op_eqD hr.units) od_eq (gc_P D.joined hr (by decide) tk rfl (an_cons (an_cons (an_cons an_nil))) (ga_cons (ge_var (pv 1)) (ga_cons (ge_ix ix_seq od_ix (ge_var (pv 3)) ge_int (fun _ _ => rfl)) (ga_cons (gc_P D.joined hr (by decide) tk rfl (an_cons (an_cons (an_cons an_nil))) (ga_cons (ge_var (pv 1)) (ga_cons (ge_ix ix_seq od_ix (ge_var (pv 3)) ge_int (fun _ _ => rfl)) (ga_cons (ge_ix ix_seq od_ix (ge_var (pv 3)) ge_int (fun _ _ => rfl)) ga_nil)))) ga_nil)))) (ge_var (pv 12)) (nomark _))))))))))))))))))
end
end LK
namespace LK
open L2 G PySem PySem.Spec PyProof.Rows
/-! ### small steps -/
theorem and_v {a b : En → M D} {env : En} {cs cs1 : Cs} (h : a env cs = .ok (.bl true) cs1) : xAnd a b env cs = b env cs1 := by
  show M.bnd (a env) _ cs = _
  rw [M.bnd_ok h]
theorem and_vf {a b : En → M D} {env : En} {cs cs1 : Cs} (h : a env cs = .ok (.bl false) cs1) : xAnd a b env cs = .ok (.bl false) cs1 := by
  show M.bnd (a env) _ cs = _
  rw [M.bnd_ok h]
  rfl
theorem chain_le {ma mb mc : En → M D} {env : En} {cs : Cs} {a i b : Int} (h1 : ma env cs = .ok (.int a) cs) (h2 : mb env cs = .ok (.int i) cs) (h3 : mc env cs = .ok (.int b) cs) : xChain opLe opLe ma mb mc env cs = .ok (.bl (decide (a ≤ i) && decide (i ≤ b))) cs := by
  show M.bnd (ma env) _ cs = _
  rw [M.bnd_ok h1, M.bnd_ok h2]
  show (match (D.bl (decide (a ≤ i))) with
    | .bl true => M.bnd (mc env) fun w => opLe (.int i) w
    | .bl false => M.ret (.bl false)
    | _ => M.no) cs = _
  cases decide (a ≤ i) with
  | true =>
    show M.bnd (mc env) _ cs = _
    rw [M.bnd_ok h3]
    rfl
  | false => rfl
theorem ix_lst {xs : List D} {i : Int} {cs : Cs} (h0 : 0 ≤ i) (h : i < xs.length) : opIx (.lst xs) (.int i) cs = .ok (xs[i.toNat]'(by omega)) cs := by
  show M.ofO (atI xs i) cs = _
  unfold atI ixN
  rw [if_pos h0, if_pos h, Option.bind_some, List.getElem?_eq_getElem (by omega)]
  rfl
theorem ix_tup {xs : List D} {i : Int} {cs : Cs} (h0 : 0 ≤ i) (h : i < xs.length) : opIx (.tup xs) (.int i) cs = .ok (xs[i.toNat]'(by omega)) cs := by
  show M.ofO (atI xs i) cs = _
  unfold atI ixN
  rw [if_pos h0, if_pos h, Option.bind_some, List.getElem?_eq_getElem (by omega)]
  rfl
/-! ### the kinds and their things -/
inductive Kd where
  | sum | most | text | map | step
def Kd.s : Kd → Str
  | .sum => PySem.Str.ofString "sum"
  | .most => PySem.Str.ofString "most"
  | .text => PySem.Str.ofString "text"
  | .map => PySem.Str.ofString "map"
  | .step => PySem.Str.ofString "step"
def letters : List Nat := (PySem.Str.ofString "abcdefghijklmnopqrstuvwxyz").cps.toList
def far : Int := 1000000000000
def mkS (l : List Nat) : Str := ⟨l.toArray⟩
/-- a thing of the kind; n: a map's length, m: a text's most -/
inductive Is : Kd → Nat → Nat → D → Prop
  | sum {n m : Nat} {i : Int} : -far ≤ i → i ≤ far → Is .sum n m (.int i)
  | most {n m : Nat} {i : Int} : -far ≤ i → i ≤ far → Is .most n m (.int i)
  | text {n m : Nat} {l : List Nat} : l.length ≤ m → (∀ c ∈ l, c ∈ letters) → Is .text n m (.str (mkS l))
  | map {n m : Nat} {xs : List Int} : xs.length = n → 1 ≤ n → n ≤ 8 → (∀ x ∈ xs, 0 ≤ x ∧ x < n) → Is .map n m (.tup (xs.map D.int))
  | step {n m : Nat} {a b : Int} : 0 ≤ a → a < 1000003 → 0 ≤ b → b < 1000003 → Is .step n m (.tup [.int a, .int b])
theorem among (i a b : Int) : f_is_among [.int i, .int a, .int b] = .ok (.bl (decide (a ≤ i) && decide (i ≤ b))) := by
  refine runP_rt (cs := []) (d := .bl (decide (a ≤ i) && decide (i ≤ b))) (ret_rt ?_) rfl
  rw [and_v (callP_ok (xs := [.int i]) rfl rfl rfl)]
  exact chain_le (var_at rfl) (var_at rfl) (var_at rfl)
theorem need_kind_ok (k : Kd) : f_need_kind [.str k.s] = .ok .non := by cases k <;> rfl
/-- all([is_among(..) for x in a tuple]) -/
theorem all_ints {it : En → M It0} {te : En → M D} {env : En} {cs : Cs} {s : Nat} {xs : List Int} {live : Cs → Bool} (hi : it env cs = .ok ⟨xs.map D.int, live⟩ cs) (hl : live cs = true) (hz : xs.length ≤ 1000000)
    (h : ∀ x ∈ xs, te ((wip env [s]).set s (some (.int x))) cs = .ok (.bl true) cs) : xCall opAll (aCons (xLcN false it [s] (.nm s) bYes te) aNil) env cs = .ok (.bl true) cs := by
  have e : xLcN false it [s] (.nm s) bYes te env cs = .ok (.lst ((xs.map D.int).map fun _ => D.bl true)) cs := by
    rw [lc_map (fun _ => D.bl true) hi hl (by unfold szOk; rw [List.length_map]; exact decide_eq_true hz) fun x hx => ?_]
    · rfl
    · obtain ⟨p, hp, rfl⟩ := List.mem_map.mp hx
      exact ⟨_, rfl, h p hp⟩
  rw [call_ok (cons_ok e rfl)]
  show (match (some ((xs.map D.int).map fun _ => D.bl true)).bind blsOf with
    | some bs => Rs.ok (D.bl (bs.all id)) cs
    | none => .no) = _
  rw [Option.bind_some, blsOf_map (fun _ => true)]
  have : ((xs.map D.int).map fun _ => true).all id = true := by
    rw [List.all_eq_true]
    intro b hb
    obtain ⟨_, _, rfl⟩ := List.mem_map.mp hb
    rfl
  show Rs.ok (D.bl (((xs.map D.int).map fun _ => true).all id)) cs = _
  rw [this]
theorem itTup_ok {m : En → M D} {env : En} {cs cs1 : Cs} {xs : List D} (h : m env cs = .ok (.tup xs) cs1) : itTup m env cs = .ok ⟨xs, fun _ => true⟩ cs1 := by
  show M.bnd (m env) _ cs = _
  rw [M.bnd_ok h]
  rfl
theorem is_map_ok {n : Nat} {xs : List Int} (h1 : xs.length = n) (h2 : 1 ≤ n) (h3 : n ≤ 8) (h : ∀ x ∈ xs, 0 ≤ x ∧ x < n) : f_is_map [.tup (xs.map D.int)] = .ok (.bl true) := by
  have hlen : ∀ (e : En), e[0]? = some (some (.tup (xs.map D.int))) → xCall opLen (aCons (xVar 0) aNil) e [] = .ok (.int n) [] := fun e he => by
    rw [call_ok (cons_ok (var_at he) rfl)]
    show (Rs.ok (D.int ((xs.map D.int).length : Nat)) [] : Rs D) = _
    rw [List.length_map, h1]
  refine runP_rt (cs := []) (d := .bl true) ?_ rfl
  show sSeq _ _ _ _ = _
  rw [seq_nx ((if_f ((or_f (show _ = Rs.ok false [] from rfl)).trans (not_b (k := true) (val_b ((chain_le (a := 1) (b := 8) rfl (hlen _ rfl) rfl).trans ?_))))).trans rfl)]
  · refine ret_rt (all_ints (xs := xs) (itTup_ok (var_at rfl)) rfl (by omega) fun x hx => ?_)
    obtain ⟨a, b⟩ := h x hx
    rw [callP_ok (xs := [.int x, .int 0, .int (n - 1)]) (d := .bl true) ?_ rfl ?_]
    · refine cons_ok (var_at rfl) (cons_ok rfl (cons_ok ?_ rfl))
      rw [bin_ok (hlen _ rfl) (show _ = Rs.ok (D.int 1) [] from rfl)]
      rfl
    · rw [among, decide_eq_true a, decide_eq_true (by omega)]
      rfl
  · rw [decide_eq_true (show (1 : Int) ≤ n by omega), decide_eq_true (show (n : Int) ≤ 8 by omega)]
    rfl
theorem is_step_ok {a b : Int} (h1 : 0 ≤ a) (h2 : a < 1000003) (h3 : 0 ≤ b) (h4 : b < 1000003) : f_is_step [.tup [.int a, .int b]] = .ok (.bl true) := by
  refine runP_rt (cs := []) (d := .bl true) (ret_rt ?_) rfl
  rw [and_v (show _ = Rs.ok (D.bl true) [] from rfl), and_v (show _ = Rs.ok (D.bl true) [] from rfl)]
  refine all_ints (xs := [a, b]) (itTup_ok (var_at rfl)) rfl (by simp) fun x hx => ?_
  rw [callP_ok (xs := [.int x, .int 0, .int 1000002]) (d := .bl true) rfl rfl ?_]
  rw [among]
  rcases List.mem_cons.mp hx with rfl | hx
  · rw [decide_eq_true h1, decide_eq_true (by omega)]
    rfl
  · rcases List.mem_cons.mp hx with rfl | hx
    · rw [decide_eq_true h3, decide_eq_true (by omega)]
      rfl
    · cases hx
theorem noR_ints : ∀ xs : List Int, noRL [.tup (xs.map D.int)] = true := fun xs => by
  have h : noRL (xs.map D.int) = true := by
    induction xs with
    | nil => rfl
    | cons x r ih =>
      show (true && noRL (r.map D.int)) = true
      rw [ih]
      rfl
  show (noRL (xs.map D.int) && true) = true
  rw [h]
  rfl
theorem noR_int (xs : List Int) : noR (.tup (xs.map D.int)) = true := (Bool.and_eq_true_iff.mp (show (noR (.tup (xs.map D.int)) && true) = true from noR_ints xs)).1
theorem is_text_ok {l : List Nat} (hz : l.length ≤ 1000) (h : ∀ c ∈ l, c ∈ letters) : f_is_text [.str (mkS l)] = .ok (.bl true) := by
  have hlen : xCall opLen (aCons (xVar 0) aNil) (startE 2 [.str (mkS l)]) [] = .ok (.int l.length) [] := by
    rw [call_ok (cons_ok (var_at rfl) rfl)]
    show (if szOk (mkS l).length = true then M.ret (D.int ((mkS l).length : Nat)) else M.no) [] = _
    have e : (mkS l).length = l.length := by
      show l.toArray.size = _
      simp
    rw [e, if_pos (show szOk l.length = true from decide_eq_true (by omega))]
    rfl
  refine runP_rt (cs := []) (d := .bl true) ?_ rfl
  show sSeq _ _ _ _ = _
  rw [seq_nx ((if_f ((or_f (show _ = Rs.ok false [] from rfl)).trans (val_b (k := false) ((bin_ok hlen (show _ = Rs.ok (D.int 1000) [] from rfl)).trans ?_)))).trans rfl)]
  · obtain ⟨e', cs', h1, ⟨_, rfl⟩, rfl⟩ := for_inv (t := .nm 1) (b := sIf (bVal (xBin opNotInS (xVar 1) (xC (.str (PySem.Str.ofString "abcdefghijklmnopqrstuvwxyz"))))) (sRet (xC (.bl false))) sSkip) (env := startE 2 [.str (mkS l)]) (cs := []) (it := itStr (xVar 0)) (xs := l.map fun c => .str ⟨#[c]⟩) (live := fun _ => true)
      (fun _ env cs => (∃ y, env = [some (.str (mkS l)), y]) ∧ cs = []) (by
        show (Rs.ok (It0.mk ((mkS l).cps.toList.map fun c => D.str ⟨#[c]⟩) fun _ => true) [] : Rs It0) = _
        rfl) (fun _ _ _ _ => rfl) (fun k x env cs hx hI => by
      obtain ⟨⟨y, rfl⟩, rfl⟩ := hI
      rw [List.getElem?_map] at hx
      cases q : l[k]? with
      | none =>
        rw [q] at hx
        cases hx
      | some c =>
        rw [q] at hx
        cases hx
        refine ⟨_, rfl, [some (.str (mkS l)), some (.str ⟨#[c]⟩)], [], ?_, ⟨_, rfl⟩, rfl⟩
        refine (if_f (val_b (k := false) ?_)).trans rfl
        rw [bin_ok (var_at (d := .str ⟨#[c]⟩) rfl) (show _ = Rs.ok _ [] from rfl)]
        show (Rs.ok (D.bl (!decide (c ∈ letters))) [] : Rs D) = _
        rw [decide_eq_true (h c (List.mem_of_getElem? q))]
        rfl) ⟨⟨none, rfl⟩, rfl⟩
    show sSeq _ _ _ _ = _
    rw [seq_nx h1]
    rfl
  · show (Rs.ok (D.bl (decide ((1000 : Int) < (l.length : Nat)))) [] : Rs D) = _
    rw [decide_eq_false (by omega)]
def Kd.b : Kd → Kd → Bool
  | .sum, .sum | .most, .most | .text, .text | .map, .map | .step, .step => true
  | _, _ => false
theorem kq (k j : Kd) (cs : Cs) : opEq true (.str k.s) (.str j.s) cs = .ok (.bl (k.b j)) cs := by
  have e1 : (SeqAt.shaped (.str k.s) && SeqAt.shaped (.str j.s)) = true := by cases k <;> cases j <;> kernel_rfl
  have e2 : PyData.eqv (.str k.s) (.str j.s) = k.b j := by cases k <;> cases j <;> kernel_rfl
  show (if (SeqAt.shaped (.str k.s) && SeqAt.shaped (.str j.s)) = true then Rs.ok (D.bl (PyData.eqv (.str k.s) (.str j.s))) cs else .no) = _
  rw [if_pos e1, e2]
/-- a kind asked for -/
theorem kt (k j : Kd) {env : En} {cs : Cs} {i : Nat} (he : env[i]? = some (some (.str k.s))) : bVal (xBin (opEq true) (xVar i) (xC (.str j.s))) env cs = .ok (k.b j) cs := val_b ((bin_ok (var_at he) rfl).trans (kq k j cs))
theorem is_of_ok {k : Kd} {n m : Nat} {d : D} (h : Is k n m d) (hm : m ≤ 1000) : f_is_of [.str k.s, d] = .ok (.bl true) := by
  refine runP_rt (cs := []) (d := .bl true) ?_ rfl
  cases h with
  | sum h1 h2 =>
    rename_i i
    show sSeq _ _ _ _ = _
    refine (seq_nx ((if_f (kt .sum .text rfl)).trans rfl)).trans ?_
    show sSeq _ _ _ _ = _
    refine (seq_nx ((if_f (kt .sum .map rfl)).trans rfl)).trans ?_
    show sSeq _ _ _ _ = _
    refine (seq_nx ((if_f (kt .sum .step rfl)).trans rfl)).trans ?_
    refine ret_rt (callP_ok (xs := [.int i, .int (-far), .int far]) rfl rfl ?_)
    rw [among, decide_eq_true h1, decide_eq_true h2]
    rfl
  | most h1 h2 =>
    rename_i i
    show sSeq _ _ _ _ = _
    refine (seq_nx ((if_f (kt .most .text rfl)).trans rfl)).trans ?_
    show sSeq _ _ _ _ = _
    refine (seq_nx ((if_f (kt .most .map rfl)).trans rfl)).trans ?_
    show sSeq _ _ _ _ = _
    refine (seq_nx ((if_f (kt .most .step rfl)).trans rfl)).trans ?_
    refine ret_rt (callP_ok (xs := [.int i, .int (-far), .int far]) rfl rfl ?_)
    rw [among, decide_eq_true h1, decide_eq_true h2]
    rfl
  | text h1 h2 =>
    rename_i l
    refine seq_rt ((if_t (kt .text .text rfl)).trans (ret_rt (callP_ok (xs := [.str (mkS l)]) rfl rfl (is_text_ok (by omega) h2))))
  | map h1 h2 h3 h4 =>
    rename_i xs
    show sSeq _ _ _ _ = _
    refine (seq_nx ((if_f (kt .map .text rfl)).trans rfl)).trans ?_
    refine seq_rt ((if_t (kt .map .map rfl)).trans (ret_rt (callP_ok (xs := [.tup (xs.map D.int)]) rfl (noR_ints xs) (is_map_ok h1 h2 h3 h4))))
  | step h1 h2 h3 h4 =>
    rename_i a b
    show sSeq _ _ _ _ = _
    refine (seq_nx ((if_f (kt .step .text rfl)).trans rfl)).trans ?_
    show sSeq _ _ _ _ = _
    refine (seq_nx ((if_f (kt .step .map rfl)).trans rfl)).trans ?_
    refine seq_rt ((if_t (kt .step .step rfl)).trans (ret_rt (callP_ok (xs := [.tup [.int a, .int b]]) rfl rfl (is_step_ok h1 h2 h3 h4))))
theorem noR_is {k : Kd} {n m : Nat} {d : D} (h : Is k n m d) : noR d = true := by
  cases h with
  | map h1 h2 h3 h4 =>
    rename_i xs
    exact noR_int xs
  | _ => rfl
theorem noR2 {k : Kd} {d : D} (h : noR d = true) : noRL [.str k.s, d] = true := by
  show (true && (noR d && true)) = true
  rw [h]
  rfl
theorem noR3 {k : Kd} {d e : D} (h : noR d = true) (h2 : noR e = true) : noRL [.str k.s, d, e] = true := by
  show (true && (noR d && (noR e && true))) = true
  rw [h, h2]
  rfl
theorem need_ok {k : Kd} {d : D} (nr : noR d = true) (h : f_is_of [.str k.s, d] = .ok (.bl true)) : f_need_thing [.str k.s, d] = .ok .non := by
  refine runP_nx (cs := []) (e := startE 2 [.str k.s, d]) ?_
  show sSeq _ _ _ _ = _
  rw [seq_nx (drop_nx (callP_ok (xs := [.str k.s]) rfl rfl (need_kind_ok k)))]
  exact (if_f (not_b (k := true) (val_b (callP_ok (xs := [.str k.s, d]) rfl (noR2 nr) h)))).trans rfl
theorem need_no {k : Kd} {d : D} (nr : noR d = true) (h : f_is_of [.str k.s, d] = .ok (.bl false)) : f_need_thing [.str k.s, d] = .ex .thing := by
  refine runP_ex (cs := []) ?_
  show sSeq _ _ _ _ = _
  rw [seq_nx (drop_nx (callP_ok (xs := [.str k.s]) rfl rfl (need_kind_ok k)))]
  exact (if_t (not_b (k := false) (val_b (callP_ok (xs := [.str k.s, d]) rfl (noR2 nr) h)))).trans rfl
theorem eq_int (b : Bool) (i j : Int) (cs : Cs) : opEq b (.int i) (.int j) cs = .ok (.bl (if b = true then i == j else !(i == j))) cs := rfl
theorem for_step {live : Cs → Bool} {t : Tg} {b : En → M Fl} {x : D} {r : List D} {env env1 e : En} {cs cs1 : Cs} (hl : live cs = true) (ht : tgS t x env = some env1) (h : b env1 cs = .ok (.nx e) cs1) : forGo live t b (x :: r) env cs = forGo live t b r e cs1 := by
  show guardM live (match tgS t x env with
    | some env1 => M.bnd (b env1) _
    | none => M.no) cs = _
  rw [guard_ok hl, ht]
  show M.bnd (b env1) _ cs = _
  rw [M.bnd_ok h]
theorem for_ex {live : Cs → Bool} {t : Tg} {b : En → M Fl} {x : D} {r : List D} {env env1 : En} {cs cs1 : Cs} {y : Exn} (hl : live cs = true) (ht : tgS t x env = some env1) (h : b env1 cs = .ex y cs1) : forGo live t b (x :: r) env cs = .ex y cs1 := by
  show guardM live (match tgS t x env with
    | some env1 => M.bnd (b env1) _
    | none => M.no) cs = _
  rw [guard_ok hl, ht]
  show M.bnd (b env1) _ cs = _
  rw [M.bnd_ex h]
theorem seq_ex {a b : En → M Fl} {env : En} {cs cs1 : Cs} {x : Exn} (h : a env cs = .ex x cs1) : sSeq a b env cs = .ex x cs1 := by
  show M.bnd (a env) _ cs = _
  rw [M.bnd_ex h]
theorem drop_ex {m : En → M D} {env : En} {cs cs1 : Cs} {x : Exn} (h : m env cs = .ex x cs1) : sDrop m env cs = .ex x cs1 := by
  show M.bnd (m env) _ cs = _
  rw [M.bnd_ex h]
theorem ret_ex {m : En → M D} {env : En} {cs cs1 : Cs} {x : Exn} (h : m env cs = .ex x cs1) : sRet m env cs = .ex x cs1 := by
  show M.bnd (m env) _ cs = _
  rw [M.bnd_ex h]
theorem cons_ex {a : En → M D} {r : En → M (List D)} {env : En} {cs cs1 : Cs} {x : Exn} (h : a env cs = .ex x cs1) : aCons a r env cs = .ex x cs1 := by
  show M.bnd (a env) _ cs = _
  rw [M.bnd_ex h]
theorem tup_ex {a : En → M (List D)} {env : En} {cs cs1 : Cs} {x : Exn} (h : a env cs = .ex x cs1) : xTup a env cs = .ex x cs1 := by
  show M.bnd (a env) _ cs = _
  rw [M.bnd_ex h]
theorem callP_ex {f : List D → Rp} {a : En → M (List D)} {env : En} {cs cs1 : Cs} {xs : List D} {x : Exn} (h : a env cs = .ok xs cs1) (hn : noRL xs = true) (hf : f xs = .ex x) : xCallP f a env cs = .ex x cs1 := by
  show M.bnd (a env) _ cs = _
  rw [M.bnd_ok h]
  show (if noRL xs = true then up (f xs) else M.no) cs1 = _
  rw [if_pos hn, hf]
  rfl
theorem len_tup {a : En → M D} {env : En} {cs : Cs} {xs : List D} (h : a env cs = .ok (.tup xs) cs) : xCall opLen (aCons a aNil) env cs = .ok (.int xs.length) cs := (call_ok (cons_ok h rfl)).trans rfl
abbrev bAl : En → M Fl := (sIf (bVal (xBin (opEq false) (xCall opLen (aCons (xVar 2) (aNil))) (xCall opLen (aCons (xBin opIx (xVar 1) (xC (.int 0))) (aNil))))) (sRaise .thing) (sSkip))
theorem al_test (k : D) (xs ys zs : List D) (cs : Cs) : (bVal (xBin (opEq false) (xCall opLen (aCons (xVar 2) (aNil))) (xCall opLen (aCons (xBin opIx (xVar 1) (xC (.int 0))) (aNil))))) [some k, some (.lst [.tup xs, .tup ys]), some (.tup zs)] cs = .ok (!((zs.length : Int) == xs.length)) cs := by
  refine val_b ?_
  rw [bin_ok (len_tup (xs := zs) (var_at rfl)) (len_tup (xs := xs) rfl)]
  rfl
theorem al_f {k : D} {xs ys zs : List D} {cs : Cs} (h : zs.length = xs.length) : (bVal (xBin (opEq false) (xCall opLen (aCons (xVar 2) (aNil))) (xCall opLen (aCons (xBin opIx (xVar 1) (xC (.int 0))) (aNil))))) [some k, some (.lst [.tup xs, .tup ys]), some (.tup zs)] cs = .ok false cs := by
  rw [al_test, h, beq_self_eq_true]
  rfl
theorem al_t {k : D} {xs ys zs : List D} {cs : Cs} (h : zs.length ≠ xs.length) : (bVal (xBin (opEq false) (xCall opLen (aCons (xVar 2) (aNil))) (xCall opLen (aCons (xBin opIx (xVar 1) (xC (.int 0))) (aNil))))) [some k, some (.lst [.tup xs, .tup ys]), some (.tup zs)] cs = .ok true cs := by
  rw [al_test, beq_eq_false_iff_ne.mpr (by omega)]
  rfl
theorem alike_ok {k : Kd} {n m m' : Nat} {a b : D} (h : Is k n m a) (h2 : Is k n m' b) : f_need_alike [.str k.s, .lst [a, b]] = .ok .non := by
  cases h with
  | map h1 g1 g2 g3 =>
    cases h2 with
    | map h3 g4 g5 g6 =>
      rename_i xs ys
      refine runP_nx (cs := []) (e := [some (.str Kd.map.s), some (.lst [.tup (xs.map D.int), .tup (ys.map D.int)]), some (.tup (ys.map D.int))]) ?_
      refine (if_t (kt .map .map rfl)).trans ?_
      show forGo (liveOf [.tup (xs.map D.int), .tup (ys.map D.int)] (.lst [.tup (xs.map D.int), .tup (ys.map D.int)])) (.nm 2) bAl [.tup (xs.map D.int), .tup (ys.map D.int)] (startE 3 [.str Kd.map.s, .lst [.tup (xs.map D.int), .tup (ys.map D.int)]]) [] = _
      exact (for_step rfl rfl ((if_f (al_f rfl)).trans rfl)).trans ((for_step rfl rfl ((if_f (al_f (by rw [List.length_map, List.length_map, h1, h3]))).trans rfl)).trans rfl)
  | sum _ _ => exact runP_nx (cs := []) (e := [some (.str Kd.sum.s), some (.lst [_, b]), none]) ((if_f (kt .sum .map rfl)).trans rfl)
  | most _ _ => exact runP_nx (cs := []) (e := [some (.str Kd.most.s), some (.lst [_, b]), none]) ((if_f (kt .most .map rfl)).trans rfl)
  | text _ _ => exact runP_nx (cs := []) (e := [some (.str Kd.text.s), some (.lst [_, b]), none]) ((if_f (kt .text .map rfl)).trans rfl)
  | step _ _ _ _ => exact runP_nx (cs := []) (e := [some (.str Kd.step.s), some (.lst [_, b]), none]) ((if_f (kt .step .map rfl)).trans rfl)
theorem alike_no {xs ys : List D} (h : xs.length ≠ ys.length) : f_need_alike [.str Kd.map.s, .lst [.tup xs, .tup ys]] = .ex .thing := by
  refine runP_ex (cs := []) ?_
  refine (if_t (kt .map .map rfl)).trans ?_
  show forGo (liveOf [.tup xs, .tup ys] (.lst [.tup xs, .tup ys])) (.nm 2) bAl [.tup xs, .tup ys] (startE 3 [.str Kd.map.s, .lst [.tup xs, .tup ys]]) [] = _
  exact (for_step rfl rfl ((if_f (al_f rfl)).trans rfl)).trans (for_ex rfl rfl ((if_t (al_t (Ne.symm h))).trans rfl))
/-! ### joined -/
def mapJ (xs ys : List Int) : List Int := xs.map fun i => ys.getD i.toNat 0
inductive Jn : Kd → D → D → D → Prop
  | sum (a b : Int) : Jn .sum (.int a) (.int b) (.int (a + b))
  | most (a b : Int) : Jn .most (.int a) (.int b) (.int (if b > a then b else a))
  | text (a b : List Nat) : Jn .text (.str (mkS a)) (.str (mkS b)) (.str (mkS (a ++ b)))
  | map (xs ys : List Int) : Jn .map (.tup (xs.map D.int)) (.tup (ys.map D.int)) (.tup ((mapJ xs ys).map D.int))
  | step (a b c d : Int) : Jn .step (.tup [.int a, .int b]) (.tup [.int c, .int d]) (.tup [.int (a * c % 1000003), .int ((b * c + d) % 1000003)])
theorem mkS_app (a b : List Nat) : mkS a ++ mkS b = mkS (a ++ b) := by
  show (⟨a.toArray ++ b.toArray⟩ : Str) = ⟨(a ++ b).toArray⟩
  simp
theorem mkS_len (a : List Nat) : (mkS a).length = a.length := by
  show a.toArray.size = _
  simp
theorem map_tuple {it : En → M It0} {te : En → M D} {env : En} {cs : Cs} {s : Nat} {xs : List D} {live : Cs → Bool} (g : D → D) (hi : it env cs = .ok ⟨xs, live⟩ cs) (hl : live cs = true) (hz : xs.length ≤ 1000000)
    (h : ∀ x ∈ xs, te ((wip env [s]).set s (some x)) cs = .ok (g x) cs) : xCall opTuple (aCons (xLcN false it [s] (.nm s) bYes te) aNil) env cs = .ok (.tup (xs.map g)) cs := by
  have e : xLcN false it [s] (.nm s) bYes te env cs = .ok (.lst (xs.map g)) cs := by
    rw [lc_map g hi hl (decide_eq_true hz) fun x hx => ⟨_, rfl, h x hx⟩]
    rfl
  exact (call_ok (cons_ok e rfl)).trans rfl
theorem ix_ints {ys : List Int} {i : Int} {cs : Cs} (h0 : 0 ≤ i) (h : i < ys.length) : opIx (.tup (ys.map D.int)) (.int i) cs = .ok (.int (ys.getD i.toNat 0)) cs := by
  rw [ix_tup h0 (by rw [List.length_map]; exact h)]
  have hh : i.toNat < ys.length := by omega
  rw [List.getElem_map, List.getD_eq_getElem?_getD, List.getElem?_eq_getElem hh]
  rfl
def gMap (ys : List Int) : D → D
  | .int i => .int (ys.getD i.toNat 0)
  | d => d
theorem gMap_map (xs ys : List Int) : (xs.map D.int).map (gMap ys) = (mapJ xs ys).map D.int := by
  unfold mapJ
  rw [List.map_map, List.map_map]
  rfl
theorem rsGL_ints (r : Nat → Option D) : ∀ xs : List Int, rsGL r (xs.map D.int) = some (xs.map D.int)
  | [] => rfl
  | x :: xs => by
    show (match some (D.int x), rsGL r (xs.map D.int) with
      | some p, some ps => some (p :: ps)
      | _, _ => none) = _
    rw [rsGL_ints r xs]
    rfl
theorem res_ints (cs : Cs) (xs : List Int) : res cs (.tup (xs.map D.int)) = some (.tup (xs.map D.int)) := by
  show (rsGL _ (xs.map D.int)).map D.tup = _
  rw [rsGL_ints]
  rfl
theorem int_inj : ∀ {xs ys : List Int}, xs.map D.int = ys.map D.int → xs = ys
  | [], [], _ => rfl
  | x :: xs, y :: ys, h => by
    obtain ⟨h1, h2⟩ := List.cons.inj (show D.int x :: xs.map D.int = D.int y :: ys.map D.int from h)
    rw [D.int.inj h1, int_inj h2]
  | [], _ :: _, h => by cases h
  | _ :: _, [], h => by cases h
theorem is_map_inv {n m : Nat} {xs : List Int} (h : Is .map n m (.tup (xs.map D.int))) : xs.length = n ∧ 1 ≤ n ∧ n ≤ 8 ∧ ∀ x ∈ xs, 0 ≤ x ∧ x < n := by
  generalize e : D.tup (xs.map D.int) = d at h
  cases h with
  | map h1 h2 h3 h4 =>
    have e2 := int_inj (D.tup.inj e)
    subst e2
    exact ⟨h1, h2, h3, h4⟩
theorem is_step_inv {n m : Nat} {a b : Int} (h : Is .step n m (.tup [.int a, .int b])) : 0 ≤ a ∧ a < 1000003 ∧ 0 ≤ b ∧ b < 1000003 := by
  cases h with
  | step h1 h2 h3 h4 => exact ⟨h1, h2, h3, h4⟩
theorem mulS {env : En} {cs : Cs} {x y : En → M D} {a b : Int} (h1 : x env cs = .ok (.int a) cs) (h2 : y env cs = .ok (.int b) cs) (h3 : 0 ≤ a) (h4 : a < 1000003) : xBin (opMulX false) x y env cs = .ok (.int (a * b)) cs := by
  rw [bin_ok h1 h2]
  show (if decide ((-(2 ^ 64) < a ∧ a < 2 ^ 64) ∨ (-(2 ^ 64) < b ∧ b < 2 ^ 64)) = true then M.ret (D.int (a * b)) else M.no) cs = _
  rw [if_pos (decide_eq_true (.inl ⟨by omega, by omega⟩))]
  rfl
theorem modS {env : En} {cs : Cs} {x : En → M D} {a : Int} {p : Int} (hp : 0 < p) (h1 : x env cs = .ok (.int a) cs) : xBin opMod x (xC (.int p)) env cs = .ok (.int (a % p)) cs := by
  rw [bin_ok h1 (show _ = Rs.ok (D.int p) cs from rfl)]
  show (if decide (0 < p) = true then M.ret (D.int (a % p)) else M.no) cs = _
  rw [if_pos (decide_eq_true hp)]
  rfl
theorem addS {env : En} {cs : Cs} {x y : En → M D} {a b : Int} (h1 : x env cs = .ok (.int a) cs) (h2 : y env cs = .ok (.int b) cs) : xBin (opAdd false) x y env cs = .ok (.int (a + b)) cs := (bin_ok h1 h2).trans rfl
theorem tup2 {env : En} {cs : Cs} {x y : En → M D} {a b : D} (h1 : x env cs = .ok a cs) (h2 : y env cs = .ok b cs) : xTup (aCons x (aCons y aNil)) env cs = .ok (.tup [a, b]) cs := by
  show M.bnd (aCons x (aCons y aNil) env) _ cs = _
  rw [M.bnd_ok (cons_ok h1 (cons_ok h2 rfl))]
  rfl
theorem step_eval {cs : Cs} {a b c d : Int} (h3 : 0 ≤ a) (h4 : a < 1000003) (h5 : 0 ≤ b) (h6 : b < 1000003) {x : Option D} {r : En} : xTup (aCons (xBin opMod (xBin (opMulX false) (xBin opIx (xVar 1) (xC (.int 0))) (xBin opIx (xVar 2) (xC (.int 0)))) (xC (.int 1000003))) (aCons (xBin opMod (xBin (opAdd false) (xBin (opMulX false) (xBin opIx (xVar 1) (xC (.int 1))) (xBin opIx (xVar 2) (xC (.int 0)))) (xBin opIx (xVar 2) (xC (.int 1)))) (xC (.int 1000003))) (aNil))) (x :: some (.tup [.int a, .int b]) :: some (.tup [.int c, .int d]) :: r) cs = .ok (.tup [.int (a * c % 1000003), .int ((b * c + d) % 1000003)]) cs :=
  tup2 (modS (by decide) (mulS rfl rfl h3 h4)) (modS (by decide) (addS (mulS rfl rfl h5 h6) rfl))
theorem put_ok {k : Kd} {n m m' : Nat} {a b c : D} (h : Is k n m a) (h2 : Is k n m' b) (hm : m ≤ 1000) (hm' : m' ≤ 1000) (j : Jn k a b c) : f_put_together [.str k.s, a, b] = .ok c := by
  cases j with
  | sum a b =>
    refine runP_rt (cs := []) (d := .int (a + b)) ?_ rfl
    exact (seq_nx ((if_f (kt .sum .most rfl)).trans rfl)).trans ((seq_nx ((if_f (kt .sum .map rfl)).trans rfl)).trans ((seq_nx ((if_f (kt .sum .step rfl)).trans rfl)).trans rfl))
  | most a b =>
    refine runP_rt (cs := []) (d := .int (if b > a then b else a)) ?_ rfl
    exact seq_rt ((if_t (kt .most .most rfl)).trans rfl)
  | text a b =>
    cases h with
    | text h3 h4 =>
      cases h2 with
      | text h5 h6 =>
        refine runP_rt (cs := []) (d := .str (mkS (a ++ b))) ?_ rfl
        refine (seq_nx ((if_f (kt .text .most rfl)).trans rfl)).trans ((seq_nx ((if_f (kt .text .map rfl)).trans rfl)).trans ((seq_nx ((if_f (kt .text .step rfl)).trans rfl)).trans (ret_rt ?_)))
        rw [bin_ok (var_at rfl) (var_at rfl)]
        show (if szOk ((mkS a).length + (mkS b).length) = true then M.ret (D.str (mkS a ++ mkS b)) else M.no) [] = _
        rw [mkS_len, mkS_len, if_pos (show szOk _ = true from decide_eq_true (by omega)), mkS_app]
        rfl
  | map xs ys =>
    refine runP_rt (cs := []) (d := .tup ((mapJ xs ys).map D.int)) ?_ (res_ints _ _)
    refine (seq_nx ((if_f (kt .map .most rfl)).trans rfl)).trans (seq_rt ((if_t (kt .map .map rfl)).trans (ret_rt ?_)))
    obtain ⟨h3, h4, h5, h6⟩ := is_map_inv h
    obtain ⟨h7, _, _, _⟩ := is_map_inv h2
    rw [map_tuple (gMap ys) (itTup_ok (xs := xs.map D.int) (var_at rfl)) rfl (by rw [List.length_map]; omega) fun x hx => ?_, gMap_map]
    obtain ⟨i, hi, rfl⟩ := List.mem_map.mp hx
    rw [bin_ok (var_at rfl) (var_at rfl)]
    exact ix_ints (h6 i hi).1 (by have := (h6 i hi).2; omega)
  | step a b c d =>
    refine runP_rt (cs := []) (d := .tup [.int (a * c % 1000003), .int ((b * c + d) % 1000003)]) ?_ rfl
    refine (seq_nx ((if_f (kt .step .most rfl)).trans rfl)).trans ((seq_nx ((if_f (kt .step .map rfl)).trans rfl)).trans (seq_rt ((if_t (kt .step .step rfl)).trans (ret_rt ?_))))
    obtain ⟨h3, h4, h5, h6⟩ := is_step_inv h
    exact step_eval h3 h4 h5 h6
theorem res_jn {k : Kd} {a b c : D} (j : Jn k a b c) : res [] c = some c := by
  cases j with
  | map xs ys => exact res_ints _ _
  | _ => rfl
theorem noR_jn {k : Kd} {a b c : D} (j : Jn k a b c) : noR c = true := by
  cases j with
  | map xs ys => exact noR_int _
  | _ => rfl
theorem joined_ok {k : Kd} {n m m' : Nat} {a b c : D} (h : Is k n m a) (h2 : Is k n m' b) (hm : m ≤ 1000) (hm' : m' ≤ 1000) (j : Jn k a b c) (nc : noR c = true) : f_joined [.str k.s, a, b] = .ok c := by
  refine runP_rt (cs := []) (d := c) ?_ (res_jn j)
  refine (seq_nx (drop_nx (callP_ok (xs := [.str k.s, a]) rfl (noR2 (noR_is h)) (need_ok (noR_is h) (is_of_ok h hm))))).trans ?_
  refine (seq_nx (drop_nx (callP_ok (xs := [.str k.s, b]) rfl (noR2 (noR_is h2)) (need_ok (noR_is h2) (is_of_ok h2 hm'))))).trans ?_
  refine (seq_nx (drop_nx (callP_ok (xs := [.str k.s, .lst [a, b]]) rfl (noR2 ?_) (alike_ok h h2)))).trans ?_
  · show (noR a && (noR b && true)) = true
    rw [noR_is h, noR_is h2]
    rfl
  · exact ret_rt (callP_ok (xs := [.str k.s, a, b]) rfl (noR3 (noR_is h) (noR_is h2)) (put_ok h h2 hm hm' j))
theorem joined_bad1 {k a b : D} {y : Exn} (nr : noRL [k, a] = true) (h : f_need_thing [k, a] = .ex y) : f_joined [k, a, b] = .ex y := by
  refine runP_ex (cs := []) ?_
  exact seq_ex (drop_ex (callP_ex (xs := [k, a]) rfl nr h))
theorem joined_bad2 {k a b : D} {y : Exn} (nr : noRL [k, a] = true) (h : f_need_thing [k, a] = .ok .non) (nr2 : noRL [k, b] = true) (h2 : f_need_thing [k, b] = .ex y) : f_joined [k, a, b] = .ex y := by
  refine runP_ex (cs := []) ?_
  exact (seq_nx (drop_nx (callP_ok (xs := [k, a]) rfl nr h))).trans (seq_ex (drop_ex (callP_ex (xs := [k, b]) rfl nr2 h2)))
theorem joined_bad3 {k a b : D} {y : Exn} (nr : noRL [k, a] = true) (h : f_need_thing [k, a] = .ok .non) (nr2 : noRL [k, b] = true) (h2 : f_need_thing [k, b] = .ok .non) (nr3 : noRL [k, .lst [a, b]] = true) (h3 : f_need_alike [k, .lst [a, b]] = .ex y) : f_joined [k, a, b] = .ex y := by
  refine runP_ex (cs := []) ?_
  exact (seq_nx (drop_nx (callP_ok (xs := [k, a]) rfl nr h))).trans ((seq_nx (drop_nx (callP_ok (xs := [k, b]) rfl nr2 h2))).trans (seq_ex (drop_ex (callP_ex (xs := [k, .lst [a, b]]) rfl nr3 h3))))
/-! ### the law's own -/
theorem join_two (a b : List Nat) : Txt.join (PySem.Str.ofString "") [mkS a, mkS b] = mkS (a ++ b) := by
  rw [TL.join_eq]
  show mkS a ++ PySem.Str.ofString "" ++ mkS b = _
  rw [show PySem.Str.ofString "" = mkS [] from by decide +kernel, mkS_app, mkS_app, List.append_nil]
theorem mapJ_eq {xs ys : List Int} : ((rngD 0 xs.length).map fun d => match d with
    | .int i => D.int (ys.getD (xs.getD i.toNat 0).toNat 0)
    | d => d) = (mapJ xs ys).map D.int := by
  apply List.ext_getElem?
  intro i
  unfold rngD mapJ
  rw [List.map_map, List.map_map, List.getElem?_map, List.getElem?_map]
  by_cases h : i < xs.length
  · rw [List.getElem?_range h, List.getElem?_eq_getElem h]
    show some (D.int (ys.getD (xs.getD (0 + (i : Int)).toNat 0).toNat 0)) = some (D.int (ys.getD xs[i].toNat 0))
    rw [Int.zero_add, Int.toNat_natCast, List.getD_eq_getElem?_getD (l := xs), List.getElem?_eq_getElem h]
    rfl
  · rw [List.getElem?_eq_none (by rw [List.length_range]; omega), List.getElem?_eq_none (by omega)]
    rfl
theorem itR1_ok {a : En → M D} {env : En} {cs cs1 : Cs} {n : Nat} (h : a env cs = .ok (.int n) cs1) (hn : n ≤ 1000000) : itR1 a env cs = .ok ⟨rngD 0 n, fun _ => true⟩ cs1 := by
  show M.bnd (a env) _ cs = _
  rw [M.bnd_ok h]
  show (if small62 (n : Int) = true then M.ret (It0.mk (rngD 0 (n : Int).toNat) fun _ => true) else M.no) cs1 = _
  rw [if_pos (show small62 (n : Int) = true from decide_eq_true (by constructor <;> omega)), Int.toNat_natCast]
  rfl
theorem law_join_ok {k : Kd} {n m m' : Nat} {a b c : D} (h : Is k n m a) (h2 : Is k n m' b) (hm : m ≤ 1000) (hm' : m' ≤ 1000) (j : Jn k a b c) : f__law_join [.str k.s, a, b] = .ok c := by
  cases j with
  | sum a b =>
    refine runP_rt (cs := []) (d := .int (a + b)) ?_ rfl
    exact seq_rt ((if_t (kt .sum .sum rfl)).trans rfl)
  | most a b =>
    refine runP_rt (cs := []) (d := .int (if b > a then b else a)) ?_ rfl
    refine (seq_nx ((if_f (kt .most .sum rfl)).trans rfl)).trans (seq_rt ((if_t (kt .most .most rfl)).trans (ret_rt ?_)))
    by_cases hb : a < b
    · rw [bin_ok (x := .lst [.int a, .int b]) (y := .int 1) (cs1 := []) (cs2 := []) rfl ?_, if_pos hb]
      · rfl
      · refine (call_ok (xs := [.bl (decide (a < b))]) rfl).trans ?_
        rw [decide_eq_true hb]
        rfl
    · rw [bin_ok (x := .lst [.int a, .int b]) (y := .int 0) (cs1 := []) (cs2 := []) rfl ?_, if_neg hb]
      · rfl
      · refine (call_ok (xs := [.bl (decide (a < b))]) rfl).trans ?_
        rw [decide_eq_false hb]
        rfl
  | text a b =>
    cases h with
    | text h3 h4 =>
      cases h2 with
      | text h5 h6 =>
        refine runP_rt (cs := []) (d := .str (mkS (a ++ b))) ?_ rfl
        refine (seq_nx ((if_f (kt .text .sum rfl)).trans rfl)).trans ((seq_nx ((if_f (kt .text .most rfl)).trans rfl)).trans (seq_rt ((if_t (kt .text .text rfl)).trans (ret_rt ?_))))
        rw [un_ok (x := .lst [.str (mkS a), .str (mkS b)]) (cs1 := []) rfl]
        show (if szOk (([mkS a, mkS b].map (·.length)).sum + 2 * (PySem.Str.ofString "").length) = true then (Rs.ok (D.str (Txt.join (PySem.Str.ofString "") [mkS a, mkS b])) [] : Rs D) else .no) = _
        have e : ([mkS a, mkS b].map (·.length)).sum + 2 * (PySem.Str.ofString "").length = a.length + b.length := by
          show ((mkS a).length + ((mkS b).length + 0)) + 2 * 0 = _
          rw [mkS_len, mkS_len]
          omega
        rw [e, if_pos (show szOk _ = true from decide_eq_true (by omega)), join_two]
  | map xs ys =>
    refine runP_rt (cs := []) (d := .tup ((mapJ xs ys).map D.int)) ?_ (res_ints _ _)
    refine (seq_nx ((if_f (kt .map .sum rfl)).trans rfl)).trans ((seq_nx ((if_f (kt .map .most rfl)).trans rfl)).trans ((seq_nx ((if_f (kt .map .text rfl)).trans rfl)).trans (seq_rt ((if_t (kt .map .map rfl)).trans (ret_rt ?_)))))
    obtain ⟨h3, h4, h5, h6⟩ := is_map_inv h
    obtain ⟨h7, _, _, _⟩ := is_map_inv h2
    rw [map_tuple (fun d => match d with
      | .int i => D.int (ys.getD (xs.getD i.toNat 0).toNat 0)
      | d => d) (itR1_ok (n := xs.length) ((len_tup (xs := xs.map D.int) (var_at rfl)).trans (by rw [List.length_map])) (by omega)) rfl (by unfold rngD; rw [List.length_map, List.length_range]; omega) fun x hx => ?_, mapJ_eq]
    obtain ⟨i, hi⟩ := List.mem_iff_getElem?.mp hx
    obtain ⟨hlt, rfl⟩ := rngD_get hi
    have hg : (xs.getD ((0 : Int) + (i : Nat)).toNat 0) ∈ xs := by
      rw [Int.zero_add, Int.toNat_natCast, List.getD_eq_getElem?_getD, List.getElem?_eq_getElem hlt]
      exact List.getElem_mem hlt
    obtain ⟨g1, g2⟩ := h6 _ hg
    refine (bin_ok (x := .tup (ys.map D.int)) (cs1 := []) rfl ((bin_ok (x := .tup (xs.map D.int)) (cs1 := []) rfl (var_at rfl)).trans (ix_ints (by omega) (by omega)))).trans ?_
    exact ix_ints g1 (by omega)
  | step a b c d =>
    refine runP_rt (cs := []) (d := .tup [.int (a * c % 1000003), .int ((b * c + d) % 1000003)]) ?_ rfl
    refine (seq_nx ((if_f (kt .step .sum rfl)).trans rfl)).trans ((seq_nx ((if_f (kt .step .most rfl)).trans rfl)).trans ((seq_nx ((if_f (kt .step .text rfl)).trans rfl)).trans ((seq_nx ((if_f (kt .step .map rfl)).trans rfl)).trans (ret_rt ?_))))
    obtain ⟨h3, h4, h5, h6⟩ := is_step_inv h
    exact step_eval h3 h4 h5 h6
/-! ### found and due alike -/
theorem pyGL_ints {r : Nat → Option PyData} : ∀ xs : List Int, pyGL r (xs.map D.int) = some (xs.map PyData.int)
  | [] => rfl
  | x :: xs => by
    show (match some (PyData.int x), pyGL r (xs.map D.int) with
      | some p, some ps => some (p :: ps)
      | _, _ => none) = _
    rw [pyGL_ints xs]
    rfl
theorem eqvAll_ints : ∀ xs : List Int, PyData.eqvAll (xs.map PyData.int) (xs.map PyData.int) = true
  | [] => by simp [PyData.eqvAll]
  | x :: xs => by simp [PyData.eqvAll, PyData.eqv, eqvAll_ints xs]
theorem eq_ints (xs : List Int) (cs : Cs) : opEq true (.tup (xs.map D.int)) (.tup (xs.map D.int)) cs = .ok (.bl true) cs := by
  have e : py cs (.tup (xs.map D.int)) = some (.tuple (xs.map PyData.int)) := by
    show (pyGL _ (xs.map D.int)).map PyData.tuple = _
    rw [pyGL_ints]
    rfl
  have e2 : SeqAt.shaped (.tuple (xs.map PyData.int)) = true := by
    simp [SeqAt.shaped, PyData.canLay0, PyData.depth, PySem.W.ke_canLayAll0, PySem.W.ke_depthAll]
  unfold opEq
  rw [e]
  show (if (SeqAt.shaped (.tuple (xs.map PyData.int)) && SeqAt.shaped (.tuple (xs.map PyData.int))) = true then Rs.ok (D.bl (PyData.eqv (.tuple (xs.map PyData.int)) (.tuple (xs.map PyData.int)))) cs else .no) = _
  rw [e2, if_pos (show (true && true) = true from rfl), PyData.eqv, eqvAll_ints]
theorem eq_strs {l : List Nat} (h : ∀ c ∈ l, c ∈ letters) (cs : Cs) : opEq true (.str (mkS l)) (.str (mkS l)) cs = .ok (.bl true) cs := by
  have e2 : SeqAt.shaped (.str (mkS l)) = true := by
    have e3 : PyData.strOk (mkS l) = true := by
      show l.toArray.all (· < 0x110000) = true
      rw [List.all_toArray, List.all_eq_true]
      intro c hc
      have hl : letters.all (· < 0x110000) = true := by decide +kernel
      exact List.all_eq_true.mp hl c (h c hc)
    simp [SeqAt.shaped, PyData.canLay0, PyData.depth, e3]
  show (if (SeqAt.shaped (.str (mkS l)) && SeqAt.shaped (.str (mkS l))) = true then Rs.ok (D.bl (PyData.eqv (.str (mkS l)) (.str (mkS l)))) cs else .no) = _
  rw [e2, if_pos (show (true && true) = true from rfl)]
  simp [PyData.eqv]
theorem eqi (i : Int) (cs : Cs) : opEq true (.int i) (.int i) cs = .ok (.bl true) cs := by
  rw [eq_int, if_pos rfl, beq_self_eq_true]
theorem alike_int (i : Int) : f__law_alike [.int i, .int i] = .ok (.bl true) := by
  refine runP_rt (cs := []) (d := .bl true) ?_ rfl
  refine (seq_nx (e := startE 3 [.int i, .int i]) (cs1 := []) rfl).trans ((seq_nx (e := startE 3 [.int i, .int i]) (cs1 := []) rfl).trans (ret_rt ((and_v (cs1 := []) rfl).trans ?_)))
  rw [bin_ok (var_at rfl) (var_at rfl)]
  exact eqi i []
theorem alike_str {l : List Nat} (h : ∀ c ∈ l, c ∈ letters) : f__law_alike [.str (mkS l), .str (mkS l)] = .ok (.bl true) := by
  refine runP_rt (cs := []) (d := .bl true) ?_ rfl
  refine (seq_nx (e := startE 3 [.str (mkS l), .str (mkS l)]) (cs1 := []) rfl).trans (seq_rt ((if_t (cs1 := []) rfl).trans (ret_rt ((and_v (cs1 := []) rfl).trans ?_))))
  rw [bin_ok (var_at rfl) (var_at rfl)]
  exact eq_strs h []
theorem alike_tup {xs : List Int} (hz : xs.length ≤ 1000) : f__law_alike [.tup (xs.map D.int), .tup (xs.map D.int)] = .ok (.bl true) := by
  refine runP_rt (cs := []) (d := .bl true) ?_ rfl
  refine seq_rt ((if_t (cs1 := []) rfl).trans ?_)
  have e1 : (bVal (xBin (opEq false) (xCall opLen (aCons (xVar 0) aNil)) (xCall opLen (aCons (xVar 1) aNil)))) (startE 3 [.tup (xs.map D.int), .tup (xs.map D.int)]) [] = .ok false [] := by
    refine val_b ?_
    rw [bin_ok (len_tup (xs := xs.map D.int) (var_at rfl)) (len_tup (xs := xs.map D.int) (var_at rfl)), eq_int, beq_self_eq_true]
    rfl
  refine (seq_nx ((if_f ((or_f (show _ = Rs.ok false [] from rfl)).trans e1)).trans rfl)).trans (ret_rt ((and_v (all_ints (xs := xs) (itTup_ok (var_at rfl)) rfl (by omega) fun x hx => ?_)).trans ?_))
  · exact callP_ok (xs := [.int x]) rfl rfl rfl
  · rw [bin_ok (var_at rfl) (var_at rfl)]
    exact eq_ints xs []
/-! ### the law's things -/
theorem mulB {env : En} {cs cs1 : Cs} {x y : En → M D} {a b : Int} (h1 : x env cs = .ok (.int a) cs1) (h2 : y env cs1 = .ok (.int b) cs1) (h : (-(2 ^ 64) < a ∧ a < 2 ^ 64) ∨ (-(2 ^ 64) < b ∧ b < 2 ^ 64)) : xBin (opMulX false) x y env cs = .ok (.int (a * b)) cs1 := by
  rw [bin_ok h1 h2]
  show (if decide ((-(2 ^ 64) < a ∧ a < 2 ^ 64) ∨ (-(2 ^ 64) < b ∧ b < 2 ^ 64)) = true then M.ret (D.int (a * b)) else M.no) cs1 = _
  rw [if_pos (decide_eq_true h)]
  rfl
theorem divB {env : En} {cs cs1 : Cs} {x y : En → M D} {a b : Int} (h1 : x env cs = .ok (.int a) cs1) (h2 : y env cs1 = .ok (.int b) cs1) (h : 0 < b ∧ b < 1073741824) : xBin opDiv x y env cs = .ok (.int (a / b)) cs1 := by
  rw [bin_ok h1 h2]
  show (if decide (0 < b ∧ b < 1073741824) = true then M.ret (D.int (a / b)) else M.no) cs1 = _
  rw [if_pos (decide_eq_true h)]
  rfl
theorem modB {env : En} {cs cs1 : Cs} {x y : En → M D} {a b : Int} (h1 : x env cs = .ok (.int a) cs1) (h2 : y env cs1 = .ok (.int b) cs1) (h : 0 < b) : xBin opMod x y env cs = .ok (.int (a % b)) cs1 := by
  rw [bin_ok h1 h2]
  show (if decide (0 < b) = true then M.ret (D.int (a % b)) else M.no) cs1 = _
  rw [if_pos (decide_eq_true h)]
  rfl
theorem addB {env : En} {cs cs1 cs2 : Cs} {x y : En → M D} {a b : Int} (h1 : x env cs = .ok (.int a) cs1) (h2 : y env cs1 = .ok (.int b) cs2) : xBin (opAdd false) x y env cs = .ok (.int (a + b)) cs2 := (bin_ok h1 h2).trans rfl
theorem subB {env : En} {cs cs1 cs2 : Cs} {x y : En → M D} {a b : Int} (h1 : x env cs = .ok (.int a) cs1) (h2 : y env cs1 = .ok (.int b) cs2) : xBin opSub x y env cs = .ok (.int (a - b)) cs2 := (bin_ok h1 h2).trans rfl
theorem pick {a b : En → M D} {env : En} {cs : Cs} {xs : List D} {i : Int} (h1 : a env cs = .ok (.lst xs) cs) (h2 : b env cs = .ok (.int i) cs) (h0 : 0 ≤ i) (h : i < xs.length) : ∃ d ∈ xs, xBin opIx a b env cs = .ok d cs :=
  ⟨_, List.getElem_mem (by omega), (bin_ok h1 h2).trans (ix_lst h0 h)⟩
def mC (c : Int) : Int := c * 48271 % 2147483647
theorem mC_lo (c : Int) : 0 ≤ mC c := Int.emod_nonneg _ (by decide)
theorem mC_hi (c : Int) : mC c < 2147483647 := Int.emod_lt_of_pos _ (by decide)
theorem thing_num {k : Kd} (hk : (k.b .sum || k.b .most) = true) (c : Int) (n : Nat) : ∃ i : Int, f__law_thing [.str k.s, .int c, .int n] = .ok (.int i) ∧ -far ≤ i ∧ i ≤ far := by
  have em : (sAsg (xBin opMod (xBin (opMulX false) (xVar 1) (xC (.int 48271))) (xC (.int 2147483647))) (.nm 1)) (startE 5 [.str k.s, .int c, .int n]) [] = .ok (.nx (startE 5 [.str k.s, .int (mC c), .int n])) [] :=
    (asg_nm (modB (cs1 := []) (mulB (cs1 := []) (var_at rfl) rfl (.inr ⟨by decide, by decide⟩)) rfl (by decide))).trans rfl
  have ek : (bOr (bVal (xBin (opEq true) (xVar 0) (xC (.str (PySem.Str.ofString "sum"))))) (bVal (xBin (opEq true) (xVar 0) (xC (.str (PySem.Str.ofString "most")))))) (startE 5 [.str k.s, .int (mC c), .int n]) [] = .ok true [] := by
    cases k with
    | sum => exact or_t (kt .sum .sum rfl)
    | most => exact (or_f (kt .most .sum rfl)).trans (kt .most .most rfl)
    | _ => cases hk
  have hm : ∀ (x : En → M D), x (startE 5 [.str k.s, .int (mC c), .int n]) [] = .ok (.int (mC c)) [] → xBin opDiv x (xC (.int 4)) (startE 5 [.str k.s, .int (mC c), .int n]) [] = .ok (.int (mC c / 4)) [] := fun x hx => divB hx rfl ⟨by decide, by decide⟩
  have h0 := mC_lo c
  by_cases h4 : mC c % 4 = 0
  · obtain ⟨d, hd, e⟩ := pick (xs := [.int far, .int (-far), .int 0, .int (-1)]) (a := xLst false (aCons (xC (.int 1000000000000)) (aCons (xUn opNeg (xC (.int 1000000000000))) (aCons (xC (.int 0)) (aCons (xUn opNeg (xC (.int 1))) (aNil)))))) (b := xBin opMod (xBin opDiv (xVar 1) (xC (.int 4))) (xC (.int 4))) (env := startE 5 [.str k.s, .int (mC c), .int n]) (cs := []) (i := mC c / 4 % 4) rfl (modB (hm _ (var_at rfl)) rfl (by decide)) (by omega) (by show _ < ((4 : Nat) : Int); omega)
    have e4 : (bVal (xBin (opEq true) (xBin opMod (xVar 1) (xC (.int 4))) (xC (.int 0)))) (startE 5 [.str k.s, .int (mC c), .int n]) [] = .ok true [] := by
      refine val_b ?_
      rw [bin_ok (modB (cs1 := []) (var_at rfl) rfl (by decide)) (show _ = Rs.ok (D.int 0) [] from rfl), eq_int, h4]
      rfl
    have main : ∀ i : Int, d = .int i → f__law_thing [.str k.s, .int c, .int n] = .ok (.int i) := fun i hi => by
      subst hi
      refine runP_rt (cs := []) (d := .int i) ?_ rfl
      exact (seq_nx em).trans (seq_rt ((if_t ek).trans (seq_rt ((if_t e4).trans (ret_rt e)))))
    simp only [List.mem_cons, List.not_mem_nil, or_false] at hd
    unfold far at *
    rcases hd with rfl | rfl | rfl | rfl
    · exact ⟨_, main _ rfl, by omega, by omega⟩
    · exact ⟨_, main _ rfl, by omega, by omega⟩
    · exact ⟨_, main _ rfl, by omega, by omega⟩
    · exact ⟨_, main _ rfl, by omega, by omega⟩
  · obtain ⟨d, hd, e⟩ := pick (xs := [.int (mC c / 4 % 21 - 10), .int (mC c * 977 % 2000000000001 - 1000000000000)]) (a := xLst false (aCons (xBin opSub (xBin opMod (xBin opDiv (xVar 1) (xC (.int 4))) (xC (.int 21))) (xC (.int 10))) (aCons (xBin opSub (xBin opMod (xBin (opMulX false) (xVar 1) (xC (.int 977))) (xC (.int 2000000000001))) (xC (.int 1000000000000))) (aNil)))) (b := xBin opMod (xBin opDiv (xVar 1) (xC (.int 4))) (xC (.int 2))) (env := startE 5 [.str k.s, .int (mC c), .int n]) (cs := []) (i := mC c / 4 % 2)
      (by
        show M.bnd (aCons _ _ _) _ _ = _
        rw [M.bnd_ok (cons_ok (subB (modB (hm _ (var_at rfl)) (b := 21) rfl (by decide)) (b := 10) rfl) (cons_ok (subB (modB (mulB (cs1 := []) (var_at rfl) (b := 977) rfl (.inr ⟨by decide, by decide⟩)) (b := 2000000000001) rfl (by decide)) (b := 1000000000000) rfl) rfl))]
        rfl) (modB (hm _ (var_at rfl)) rfl (by decide)) (by omega) (by show _ < ((2 : Nat) : Int); omega)
    have e4 : (bVal (xBin (opEq true) (xBin opMod (xVar 1) (xC (.int 4))) (xC (.int 0)))) (startE 5 [.str k.s, .int (mC c), .int n]) [] = .ok false [] := by
      refine val_b ?_
      rw [bin_ok (modB (cs1 := []) (var_at rfl) rfl (by decide)) (show _ = Rs.ok (D.int 0) [] from rfl), eq_int, if_pos rfl, beq_eq_false_iff_ne.mpr h4]
    have main : ∀ i : Int, d = .int i → f__law_thing [.str k.s, .int c, .int n] = .ok (.int i) := fun i hi => by
      subst hi
      refine runP_rt (cs := []) (d := .int i) ?_ rfl
      exact (seq_nx em).trans (seq_rt ((if_t ek).trans ((seq_nx ((if_f e4).trans rfl)).trans (ret_rt e))))
    simp only [List.mem_cons, List.not_mem_nil, or_false] at hd
    unfold far
    rcases hd with rfl | rfl
    · exact ⟨_, main _ rfl, by omega, by omega⟩
    · exact ⟨_, main _ rfl, by omega, by omega⟩
theorem em_any (k : Kd) (c : Int) (n : Nat) : (sAsg (xBin opMod (xBin (opMulX false) (xVar 1) (xC (.int 48271))) (xC (.int 2147483647))) (.nm 1)) (startE 5 [.str k.s, .int c, .int n]) [] = .ok (.nx (startE 5 [.str k.s, .int (mC c), .int n])) [] :=
  (asg_nm (modB (cs1 := []) (mulB (cs1 := []) (var_at rfl) rfl (.inr ⟨by decide, by decide⟩)) rfl (by decide))).trans rfl
theorem ek_not {k : Kd} (hk : k.b .sum = false) (hk2 : k.b .most = false) (c : Int) (n : Nat) {a : En → M Fl} : (sIf (bOr (bVal (xBin (opEq true) (xVar 0) (xC (.str (PySem.Str.ofString "sum"))))) (bVal (xBin (opEq true) (xVar 0) (xC (.str (PySem.Str.ofString "most")))))) a sSkip) (startE 5 [.str k.s, .int c, .int n]) [] = .ok (.nx (startE 5 [.str k.s, .int c, .int n])) [] := by
  have e1 := kt k .sum (env := startE 5 [.str k.s, .int c, .int n]) (cs := []) (i := 0) rfl
  have e2 := kt k .most (env := startE 5 [.str k.s, .int c, .int n]) (cs := []) (i := 0) rfl
  rw [hk] at e1
  rw [hk2] at e2
  exact (if_f ((or_f e1).trans e2)).trans rfl
theorem thing_step (c : Int) (n : Nat) : ∃ a b : Int, f__law_thing [.str Kd.step.s, .int c, .int n] = .ok (.tup [.int a, .int b]) ∧ 0 ≤ a ∧ a < 1000003 ∧ 0 ≤ b ∧ b < 1000003 := by
  have h0 := mC_lo c
  obtain ⟨d, hd, e⟩ := pick (xs := [.int (mC c / 7 % 1000003), .int 1000002, .int 0]) (a := xLst false (aCons (xBin opMod (xBin opDiv (xVar 1) (xC (.int 7))) (xC (.int 1000003))) (aCons (xC (.int 1000002)) (aCons (xC (.int 0)) (aNil))))) (b := xBin opMod (xBin opDiv (xVar 1) (xC (.int 5))) (xC (.int 3))) (env := startE 5 [.str Kd.step.s, .int (mC c), .int n]) (cs := []) (i := mC c / 5 % 3)
    (by
      show M.bnd (aCons _ _ _) _ _ = _
      rw [M.bnd_ok (cons_ok (modB (divB (cs1 := []) (var_at rfl) (b := 7) rfl ⟨by decide, by decide⟩) (b := 1000003) rfl (by decide)) (cons_ok rfl (cons_ok rfl rfl)))]
      rfl) (modB (divB (cs1 := []) (var_at rfl) rfl ⟨by decide, by decide⟩) rfl (by decide)) (by omega) (by show _ < ((3 : Nat) : Int); omega)
  have main : ∀ i : Int, d = .int i → f__law_thing [.str Kd.step.s, .int c, .int n] = .ok (.tup [.int (mC c % 1000003), .int i]) := fun i hi => by
    subst hi
    refine runP_rt (cs := []) (d := .tup [.int (mC c % 1000003), .int i]) ?_ rfl
    exact (seq_nx (em_any .step c n)).trans ((seq_nx (ek_not (k := .step) rfl rfl (mC c) n)).trans ((seq_nx ((if_f (kt .step .text rfl)).trans rfl)).trans ((seq_nx ((if_f (kt .step .map rfl)).trans rfl)).trans (ret_rt (tup2 (modB (cs1 := []) (var_at rfl) rfl (by decide)) e)))))
  simp only [List.mem_cons, List.not_mem_nil, or_false] at hd
  rcases hd with rfl | rfl | rfl
  · exact ⟨_, _, main _ rfl, by omega, by omega, by omega, by omega⟩
  · exact ⟨_, _, main _ rfl, by omega, by omega, by omega, by omega⟩
  · exact ⟨_, _, main _ rfl, by omega, by omega, by omega, by omega⟩
def mapT (c : Int) (n : Nat) : List Int := (List.range n).map fun (k : Nat) => mC c / (1 + 7 * (0 + (k : Int))) % n
theorem thing_map (c : Int) {n : Nat} (h1 : 1 ≤ n) (h8 : n ≤ 8) : f__law_thing [.str Kd.map.s, .int c, .int n] = .ok (.tup ((mapT c n).map D.int)) := by
  refine runP_rt (cs := []) (d := .tup ((mapT c n).map D.int)) ?_ (res_ints _ _)
  refine (seq_nx (em_any .map c n)).trans ((seq_nx (ek_not (k := .map) rfl rfl (mC c) n)).trans ((seq_nx ((if_f (kt .map .text rfl)).trans rfl)).trans (seq_rt ((if_t (kt .map .map rfl)).trans (ret_rt ?_)))))
  rw [map_tuple (fun d => match d with
    | .int i => D.int (mC c / (1 + 7 * i) % n)
    | d => d) (itR1_ok (n := n) (var_at rfl) (by omega)) rfl (by unfold rngD; rw [List.length_map, List.length_range]; omega) fun x hx => ?_]
  · unfold mapT rngD
    rw [List.map_map, List.map_map]
    rfl
  · obtain ⟨i, hi⟩ := List.mem_iff_getElem?.mp hx
    obtain ⟨hlt, rfl⟩ := rngD_get hi
    refine modB (cs1 := []) (divB (cs1 := []) (var_at rfl) (addB (cs1 := []) (a := 1) rfl (mulB (cs1 := []) (a := 7) rfl (var_at rfl) (.inl ⟨by decide, by decide⟩))) ⟨by omega, by omega⟩) (var_at rfl) (by omega)
theorem mapT_ok (c : Int) {n : Nat} (h1 : 1 ≤ n) : (mapT c n).length = n ∧ ∀ x ∈ mapT c n, 0 ≤ x ∧ x < n := by
  unfold mapT
  refine ⟨by rw [List.length_map, List.length_range], fun x hx => ?_⟩
  obtain ⟨k, _, rfl⟩ := List.mem_map.mp hx
  exact ⟨Int.emod_nonneg _ (by omega), Int.emod_lt_of_pos _ (by omega)⟩
theorem strs_single : ∀ l : List Nat, strsOf (l.map fun c => D.str ⟨#[c]⟩) = some (l.map fun c => ⟨#[c]⟩)
  | [] => rfl
  | c :: l => by
    show (strsOf (l.map fun c => D.str ⟨#[c]⟩)).map (_ :: ·) = _
    rw [strs_single l]
    rfl
theorem join_single : ∀ l : List Nat, PySem.Str.join (PySem.Str.ofString "") (l.map fun c => ⟨#[c]⟩) = mkS l
  | [] => rfl
  | [c] => rfl
  | c :: d :: l => by
    show (⟨#[c]⟩ : Str) ++ PySem.Str.ofString "" ++ PySem.Str.join (PySem.Str.ofString "") ((d :: l).map fun c => ⟨#[c]⟩) = _
    rw [join_single (d :: l), show PySem.Str.ofString "" = mkS [] from by decide +kernel, show (⟨#[c]⟩ : Str) = mkS [c] from rfl, mkS_app, mkS_app]
    rfl
theorem sum_single : ∀ l : List Nat, ((l.map fun c => (⟨#[c]⟩ : Str)).map (·.length)).sum = l.length
  | [] => rfl
  | c :: l => by
    show 1 + ((l.map fun c => (⟨#[c]⟩ : Str)).map (·.length)).sum = _
    rw [sum_single l]
    exact Nat.add_comm 1 _
def textT (c : Int) : List Nat := (List.range (mC c % 7).toNat).map fun (k : Nat) => letters.getD ((mC c / 7 + (0 + (k : Int)) * (1 + mC c / 31 % 25)) % 26).toNat 97
theorem thing_text (c : Int) (n : Nat) : f__law_thing [.str Kd.text.s, .int c, .int n] = .ok (.str (mkS (textT c))) := by
  have h0 := mC_lo c
  refine runP_rt (cs := []) (d := .str (mkS (textT c))) ?_ rfl
  refine (seq_nx (em_any .text c n)).trans ((seq_nx (ek_not (k := .text) rfl rfl (mC c) n)).trans (seq_rt ((if_t (kt .text .text rfl)).trans ((seq_nx (asg_nm (cs1 := []) rfl)).trans (ret_rt ?_)))))
  have hr : itR1 (xBin opMod (xVar 1) (xC (.int 7))) [some (.str Kd.text.s), some (.int (mC c)), some (.int n), some (.str (PySem.Str.ofString "abcdefghijklmnopqrstuvwxyz")), none] [] = .ok ⟨rngD 0 (mC c % 7).toNat, fun _ => true⟩ [] := itR1_ok (by
    rw [modB (cs1 := []) (var_at rfl) (b := 7) rfl (by decide), Int.toNat_of_nonneg (by omega)]) (by omega)
  have e : xLcN false (itR1 (xBin opMod (xVar 1) (xC (.int 7)))) [4] (.nm 4) bYes (xBin opIx (xVar 3) (xBin opMod (xBin (opAdd false) (xBin opDiv (xVar 1) (xC (.int 7))) (xBin (opMulX false) (xVar 4) (xBin (opAdd false) (xC (.int 1)) (xBin opMod (xBin opDiv (xVar 1) (xC (.int 31))) (xC (.int 25)))))) (xC (.int 26)))) [some (.str Kd.text.s), some (.int (mC c)), some (.int n), some (.str (PySem.Str.ofString "abcdefghijklmnopqrstuvwxyz")), none] [] = .ok (.lst ((textT c).map fun c => D.str ⟨#[c]⟩)) [] := by
    rw [lc_map (fun d => match d with
      | .int i => D.str ⟨#[letters.getD ((mC c / 7 + i * (1 + mC c / 31 % 25)) % 26).toNat 97]⟩
      | d => d) hr rfl (decide_eq_true (by unfold rngD; rw [List.length_map, List.length_range]; omega)) fun x hx => ⟨_, rfl, ?_⟩]
    · unfold textT rngD
      rw [List.map_map, List.map_map]
      rfl
    · obtain ⟨i, hi⟩ := List.mem_iff_getElem?.mp hx
      obtain ⟨hlt, rfl⟩ := rngD_get hi
      refine (bin_ok (cs1 := []) (var_at rfl) (modB (cs1 := []) (addB (cs1 := []) (divB (cs1 := []) (var_at rfl) (b := 7) rfl ⟨by decide, by decide⟩) (mulB (cs1 := []) (var_at rfl) (addB (cs1 := []) (a := 1) rfl (modB (cs1 := []) (divB (cs1 := []) (var_at rfl) (b := 31) rfl ⟨by decide, by decide⟩) (b := 25) rfl (by decide))) (.inr ⟨by omega, by omega⟩))) (b := 26) rfl (by decide))).trans ?_
      generalize hj : (mC c / 7 + (0 + (i : Nat) : Int) * (1 + mC c / 31 % 25)) % 26 = j
      have j0 : 0 ≤ j := by rw [← hj]; exact Int.emod_nonneg _ (by decide)
      have j1 : j < 26 := by rw [← hj]; exact Int.emod_lt_of_pos _ (by decide)
      show (if szOk (PySem.Str.ofString "abcdefghijklmnopqrstuvwxyz").length = true then (match atI letters j with
        | some c => M.ret (D.str ⟨#[c]⟩)
        | none => M.no) else M.no) [] = _
      have hl : letters.length = 26 := by decide +kernel
      have ea : atI letters j = some (letters.getD j.toNat 97) := by
        unfold atI ixN
        rw [if_pos j0, if_pos (by rw [hl]; omega), Option.bind_some, List.getD_eq_getElem?_getD, List.getElem?_eq_getElem (by rw [hl]; omega)]
        rfl
      rw [if_pos (by decide +kernel), ea]
      show (Rs.ok (D.str ⟨#[letters.getD j.toNat 97]⟩) [] : Rs D) = Rs.ok (D.str ⟨#[letters.getD ((mC c / 7 + (0 + (i : Nat) : Int) * (1 + mC c / 31 % 25)) % 26).toNat 97]⟩) []
      rw [hj]
  refine (un_ok e).trans ?_
  show (match (some ((textT c).map fun c => D.str ⟨#[c]⟩)).bind strsOf with
    | some (ys : List Str) => if szOk ((ys.map fun (y : Str) => y.length).sum + ys.length * (PySem.Str.ofString "").length) = true then (Rs.ok (D.str (Txt.join (PySem.Str.ofString "") ys)) [] : Rs D) else .no
    | none => .no) = _
  rw [Option.bind_some, strs_single]
  show (if szOk ((((textT c).map fun c => (⟨#[c]⟩ : Str)).map (·.length)).sum + ((textT c).map fun c => (⟨#[c]⟩ : Str)).length * 0) = true then (Rs.ok (D.str (Txt.join (PySem.Str.ofString "") ((textT c).map fun c => (⟨#[c]⟩ : Str)))) [] : Rs D) else .no) = _
  rw [sum_single, Nat.mul_zero, Nat.add_zero, if_pos (show szOk _ = true from decide_eq_true (by unfold textT; rw [List.length_map, List.length_range]; omega)), TL.join_eq, join_single]
theorem textT_ok (c : Int) : (textT c).length ≤ 6 ∧ ∀ x ∈ textT c, x ∈ letters := by
  have h0 := mC_lo c
  unfold textT
  refine ⟨by rw [List.length_map, List.length_range]; omega, fun x hx => ?_⟩
  obtain ⟨k, _, rfl⟩ := List.mem_map.mp hx
  generalize hj : (mC c / 7 + (0 + (k : Int)) * (1 + mC c / 31 % 25)) % 26 = j
  have j0 : 0 ≤ j := by rw [← hj]; exact Int.emod_nonneg _ (by decide)
  have j1 : j < 26 := by rw [← hj]; exact Int.emod_lt_of_pos _ (by decide)
  have hl : letters.length = 26 := by decide +kernel
  rw [List.getD_eq_getElem?_getD, List.getElem?_eq_getElem (by rw [hl]; omega)]
  exact List.getElem_mem _
theorem thing_ok (k : Kd) (c : Int) {n : Nat} (h1 : 1 ≤ n) (h8 : n ≤ 8) : ∃ d, f__law_thing [.str k.s, .int c, .int n] = .ok d ∧ Is k n 6 d := by
  cases k with
  | sum =>
    obtain ⟨i, e, a, b⟩ := thing_num (k := .sum) rfl c n
    exact ⟨_, e, .sum a b⟩
  | most =>
    obtain ⟨i, e, a, b⟩ := thing_num (k := .most) rfl c n
    exact ⟨_, e, .most a b⟩
  | text => exact ⟨_, thing_text c n, .text (textT_ok c).1 (textT_ok c).2⟩
  | map => exact ⟨_, thing_map c h1 h8, .map (mapT_ok c h1).1 h1 h8 (mapT_ok c h1).2⟩
  | step =>
    obtain ⟨a, b, e, h2, h3, h4, h5⟩ := thing_step c n
    exact ⟨_, e, .step h2 h3 h4 h5⟩
end LK
namespace LK
open L2 G PySem PySem.Spec PyProof.Rows
/-! ### shapes -/
inductive Sh : D → Prop
  | int (i : Int) : Sh (.int i)
  | str {l : List Nat} : (∀ c ∈ l, c ∈ letters) → Sh (.str (mkS l))
  | tup {xs : List Int} : xs.length ≤ 1000 → Sh (.tup (xs.map D.int))
theorem Sh.of {k : Kd} {n m : Nat} {d : D} (h : Is k n m d) : Sh d := by
  cases h with
  | sum _ _ => exact .int _
  | most _ _ => exact .int _
  | text _ h => exact .str h
  | map h1 h2 h3 _ => exact .tup (by omega)
  | step h1 h2 h3 h4 =>
    rename_i a b
    exact .tup (xs := [a, b]) (by simp)
theorem mapJ_len (xs ys : List Int) : (mapJ xs ys).length = xs.length := by
  unfold mapJ
  rw [List.length_map]
theorem getD_mem {xs : List Int} {i : Int} (h0 : 0 ≤ i) (h : i < xs.length) : xs.getD i.toNat 0 ∈ xs := by
  rw [List.getD_eq_getElem?_getD, List.getElem?_eq_getElem (by omega)]
  exact List.getElem_mem _
theorem jn_is {k : Kd} {n m m' : Nat} {a b c : D} (h : Is k n m a) (h2 : Is k n m' b) (j : Jn k a b c) (hk : k.b .sum = false) : Is k n (m + m') c := by
  cases j with
  | sum => cases hk
  | most a b =>
    cases h with
    | most h1 h3 =>
      cases h2 with
      | most h4 h5 =>
        by_cases hb : b > a
        · rw [if_pos hb]
          exact .most h4 h5
        · rw [if_neg hb]
          exact .most h1 h3
  | text a b =>
    cases h with
    | text h1 h3 =>
      cases h2 with
      | text h4 h5 => exact .text (by rw [List.length_append]; omega) fun c hc => (List.mem_append.mp hc).elim (h3 c) (h5 c)
  | map xs ys =>
    obtain ⟨h3, h4, h5, h6⟩ := is_map_inv h
    obtain ⟨h7, _, _, h8⟩ := is_map_inv h2
    refine .map (by rw [mapJ_len, h3]) h4 h5 fun x hx => ?_
    unfold mapJ at hx
    obtain ⟨i, hi, rfl⟩ := List.mem_map.mp hx
    obtain ⟨g1, g2⟩ := h6 i hi
    exact h8 _ (getD_mem g1 (by omega))
  | step a b c d => exact .step (Int.emod_nonneg _ (by decide)) (Int.emod_lt_of_pos _ (by decide)) (Int.emod_nonneg _ (by decide)) (Int.emod_lt_of_pos _ (by decide))
theorem jn_ex {k : Kd} {n m m' : Nat} {a b : D} (h : Is k n m a) (h2 : Is k n m' b) : ∃ c, Jn k a b c := by
  cases h with
  | sum _ _ => cases h2 with | sum _ _ => exact ⟨_, .sum _ _⟩
  | most _ _ => cases h2 with | most _ _ => exact ⟨_, .most _ _⟩
  | text _ _ => cases h2 with | text _ _ => exact ⟨_, .text _ _⟩
  | map _ _ _ _ => cases h2 with | map _ _ _ _ => exact ⟨_, .map _ _⟩
  | step _ _ _ _ => cases h2 with | step _ _ _ _ => exact ⟨_, .step _ _ _ _⟩
theorem mapJ_assoc {n : Nat} {xs ys zs : List Int} (h1 : ∀ x ∈ xs, 0 ≤ x ∧ x < n) (h2 : ys.length = n) : mapJ (mapJ xs ys) zs = mapJ xs (mapJ ys zs) := by
  unfold mapJ
  rw [List.map_map]
  refine List.map_congr_left fun x hx => ?_
  obtain ⟨g1, g2⟩ := h1 x hx
  have hx2 : x.toNat < ys.length := by omega
  show zs.getD (ys.getD x.toNat 0).toNat 0 = (ys.map fun i => zs.getD i.toNat 0).getD x.toNat 0
  rw [List.getD_eq_getElem?_getD (l := ys.map _), List.getElem?_map, List.getD_eq_getElem?_getD (l := ys), List.getElem?_eq_getElem hx2]
  rfl
theorem emod_mul_add (x y z p : Int) : (x % p * y + z) % p = (x * y + z) % p := by
  rw [Int.add_emod, Int.mul_emod, Int.emod_emod_of_dvd _ (Int.dvd_refl p), ← Int.mul_emod, ← Int.add_emod]
theorem emod_add_mod (x y z p : Int) : (x * (y % p) + z % p) % p = (x * y + z) % p := by
  rw [Int.add_emod, Int.mul_emod, Int.emod_emod_of_dvd _ (Int.dvd_refl p), Int.emod_emod_of_dvd _ (Int.dvd_refl p), ← Int.mul_emod, ← Int.add_emod]
theorem mkS_inj {a b : List Nat} (h : mkS a = mkS b) : a = b := by
  have := congrArg (fun z : Str => z.cps.toList) h
  simpa [mkS] using this
theorem jn_text_inv {a b : List Nat} {c : D} (j : Jn .text (.str (mkS a)) (.str (mkS b)) c) : c = .str (mkS (a ++ b)) := by
  generalize ea : D.str (mkS a) = x at j
  generalize eb : D.str (mkS b) = y at j
  cases j with
  | text a2 b2 => rw [mkS_inj (D.str.inj ea), mkS_inj (D.str.inj eb)]
theorem jn_map_inv {a b : List Int} {c : D} (j : Jn .map (.tup (a.map D.int)) (.tup (b.map D.int)) c) : c = .tup ((mapJ a b).map D.int) := by
  generalize ea : D.tup (a.map D.int) = x at j
  generalize eb : D.tup (b.map D.int) = y at j
  cases j with
  | map a2 b2 => rw [int_inj (D.tup.inj ea), int_inj (D.tup.inj eb)]
theorem jn_step_inv {a b c d : Int} {z : D} (j : Jn .step (.tup [.int a, .int b]) (.tup [.int c, .int d]) z) : z = .tup [.int (a * c % 1000003), .int ((b * c + d) % 1000003)] := by
  cases j
  rfl
theorem jn_sum_inv {a b : Int} {z : D} (j : Jn .sum (.int a) (.int b) z) : z = .int (a + b) := by
  cases j
  rfl
theorem jn_most_inv {a b : Int} {z : D} (j : Jn .most (.int a) (.int b) z) : z = .int (if b > a then b else a) := by
  cases j
  rfl
theorem jn_assoc {k : Kd} {n m m' m'' : Nat} {a b e c f d d' : D} (h : Is k n m a) (h2 : Is k n m' b) (h3 : Is k n m'' e) (j1 : Jn k a b c) (j2 : Jn k c e d) (j3 : Jn k b e f) (j4 : Jn k a f d') : d = d' := by
  cases h with
  | sum _ _ =>
    cases h2 with
    | sum _ _ =>
      cases h3 with
      | sum _ _ =>
        have e1 := jn_sum_inv j1
        have e3 := jn_sum_inv j3
        subst e1 e3
        rw [jn_sum_inv j2, jn_sum_inv j4, Int.add_assoc]
  | most _ _ =>
    cases h2 with
    | most _ _ =>
      cases h3 with
      | most _ _ =>
        have e1 := jn_most_inv j1
        have e3 := jn_most_inv j3
        subst e1 e3
        rw [jn_most_inv j2, jn_most_inv j4]
        congr 1
        rename_i x _ _ y _ _ z _ _
        by_cases q1 : y > x <;> by_cases q2 : z > y <;> simp only [q1, q2, if_true, if_false] <;> (repeat' split) <;> omega
  | text _ _ =>
    cases h2 with
    | text _ _ =>
      cases h3 with
      | text _ _ =>
        have e1 := jn_text_inv j1
        have e3 := jn_text_inv j3
        subst e1 e3
        rw [jn_text_inv j2, jn_text_inv j4, List.append_assoc]
  | map g1 g2 g3 g4 =>
    cases h2 with
    | map g5 g6 g7 g8 =>
      cases h3 with
      | map g9 _ _ _ =>
        have e1 := jn_map_inv j1
        have e3 := jn_map_inv j3
        subst e1 e3
        rw [jn_map_inv j2, jn_map_inv j4, mapJ_assoc (n := n) g4 g5]
  | step _ _ _ _ =>
    cases h2 with
    | step _ _ _ _ =>
      cases h3 with
      | step _ _ _ _ =>
        have e1 := jn_step_inv j1
        have e3 := jn_step_inv j3
        subst e1 e3
        rw [jn_step_inv j2, jn_step_inv j4]
        rename_i a b _ _ _ _ c d _ _ _ _ e f _ _ _ _
        have q1 : a * c % 1000003 * e % 1000003 = a * (c * e % 1000003) % 1000003 := by
          have := emod_mul_add (a * c) e 0 1000003
          have h2 := emod_add_mod a (c * e) 0 1000003
          simp only [Int.add_zero, Int.zero_emod] at this h2
          rw [this, h2, Int.mul_assoc]
        have q2 : ((b * c + d) % 1000003 * e + f) % 1000003 = (b * (c * e % 1000003) + (d * e + f) % 1000003) % 1000003 := by
          rw [emod_mul_add, emod_add_mod, Int.add_mul, Int.mul_assoc, Int.add_assoc]
        rw [q1, q2]
theorem alike_sh {d : D} (h : Sh d) : f__law_alike [d, d] = .ok (.bl true) := by
  cases h with
  | int i => exact alike_int i
  | str h => exact alike_str h
  | tup h => exact alike_tup h
theorem eq_sh {d : D} (h : Sh d) (cs : Cs) : opEq true d d cs = .ok (.bl true) cs := by
  cases h with
  | int i => exact eqi i cs
  | str h => exact eq_strs h cs
  | tup h => exact eq_ints _ cs
theorem noR_sh {d : D} (h : Sh d) : noR d = true := by
  cases h with
  | tup h => exact noR_int _
  | _ => rfl
theorem res_sh {d : D} (h : Sh d) (cs : Cs) : res cs d = some d := by
  cases h with
  | tup h => exact res_ints _ _
  | _ => rfl
/-! ### tried, needed -/
theorem noR_tup1 {d : D} (h : noR d = true) : noRL [.tup [d]] = true := by
  show ((noR d && true) && true) = true
  rw [h]
  rfl
mutual
theorem rs_noR (r : Nat → Option D) : ∀ d : D, noR d = true → rsG r d = some d
  | .non, _ => rfl
  | .bl _, _ => rfl
  | .int _, _ => rfl
  | .str _, _ => rfl
  | .dic, _ => rfl
  | .scr _, _ => rfl
  | .tup xs, h => by
    show (rsGL r xs).map D.tup = _
    rw [rsL_noR r xs h]
    rfl
  | .lst xs, h => by
    show (rsGL r xs).map D.lst = _
    rw [rsL_noR r xs h]
    rfl
  | .ref _, h => by cases h
theorem rsL_noR (r : Nat → Option D) : ∀ ds : List D, noRL ds = true → rsGL r ds = some ds
  | [], _ => rfl
  | d :: ds, h => by
    obtain ⟨h1, h2⟩ := Bool.and_eq_true_iff.mp (show (noR d && noRL ds) = true from h)
    show (match rsG r d, rsGL r ds with
      | some p, some ps => some (p :: ps)
      | _, _ => none) = _
    rw [rs_noR r d h1, rsL_noR r ds h2]
end
theorem res_noR {d : D} (h : noR d = true) (cs : Cs) : res cs d = some d := rs_noR _ d h
theorem tryW_ok {i : Nat} {body : En → M Fl} {env : En} {cs cs1 : Cs} {f : Fl} (hi : i < env.length) (h : body env cs = .ok f cs1) : sTryW i body env cs = .ok f cs1 := by
  unfold sTryW
  rw [if_pos hi, h]
theorem tryW_ex {i : Nat} {body : En → M Fl} {env : En} {cs cs1 : Cs} (y : X4) (hi : i < env.length) (h : body env cs = .ex y.e cs1) : sTryW i body env cs = .ok (.rt (.lst [.str y.word])) cs1 := by
  unfold sTryW
  rw [if_pos hi, h]
  cases y <;> rfl
theorem tried_ok {k a b c : D} (nr : noRL [k, a, b] = true) (h : f_joined [k, a, b] = .ok c) (nc : noR c = true) : f__law_tried [k, a, b] = .ok (.tup [c]) := by
  refine runP_rt (cs := []) (d := .tup [c]) ?_ (res_noR (by show (noR c && true) = true; rw [nc]; rfl) _)
  have e : (sRet (xTup (aCons (xCallP f_joined (aCons (xVar 0) (aCons (xVar 1) (aCons (xVar 2) (aNil))))) (aNil)))) (startE 4 [k, a, b]) [] = .ok (.rt (.tup [c])) [] := by
    refine ret_rt ?_
    show M.bnd (aCons _ _ _) _ _ = _
    rw [M.bnd_ok (cons_ok (callP_ok (xs := [k, a, b]) rfl nr h) rfl)]
    rfl
  exact tryW_ok (show 3 < 4 by decide) e
theorem tried_ex {k a b : D} (y : X4) (nr : noRL [k, a, b] = true) (h : f_joined [k, a, b] = .ex y.e) : f__law_tried [k, a, b] = .ok (.lst [.str y.word]) := by
  refine runP_rt (cs := []) (d := .lst [.str y.word]) ?_ rfl
  have e : (sRet (xTup (aCons (xCallP f_joined (aCons (xVar 0) (aCons (xVar 1) (aCons (xVar 2) (aNil))))) (aNil)))) (startE 4 [k, a, b]) [] = .ex y.e [] := ret_ex (tup_ex (cons_ex (callP_ex (xs := [k, a, b]) rfl nr h)))
  exact tryW_ex y (show 3 < 4 by decide) e
theorem needed_ok {k a : D} (nr : noRL [k, a] = true) (h : f_need_thing [k, a] = .ok .non) : f__law_needed [k, a] = .ok (.tup [.non]) := by
  refine runP_rt (cs := []) (d := .tup [.non]) ?_ rfl
  have e : (sRet (xTup (aCons (xCallP f_need_thing (aCons (xVar 0) (aCons (xVar 1) (aNil)))) (aNil)))) (startE 3 [k, a]) [] = .ok (.rt (.tup [.non])) [] := by
    refine ret_rt ?_
    show M.bnd (aCons _ _ _) _ _ = _
    rw [M.bnd_ok (cons_ok (callP_ok (xs := [k, a]) rfl nr h) rfl)]
    rfl
  exact tryW_ok (show 2 < 3 by decide) e
theorem needed_ex {k a : D} (y : X4) (nr : noRL [k, a] = true) (h : f_need_thing [k, a] = .ex y.e) : f__law_needed [k, a] = .ok (.lst [.str y.word]) := by
  refine runP_rt (cs := []) (d := .lst [.str y.word]) ?_ rfl
  have e : (sRet (xTup (aCons (xCallP f_need_thing (aCons (xVar 0) (aCons (xVar 1) (aNil)))) (aNil)))) (startE 3 [k, a]) [] = .ex y.e [] := ret_ex (tup_ex (cons_ex (callP_ex (xs := [k, a]) rfl nr h)))
  exact tryW_ex y (show 2 < 3 by decide) e
end LK
namespace LK
open L2 G PySem PySem.Spec PyProof.Rows
abbrev o0 : En → M Fl := sAsg (xLst true (aCons (xC (.bl true)) (aCons (xC .non) (aCons (xLst false (aCons (xC (.int 1)) (aNil))) (aCons (xC .dic) (aNil)))))) (.nm 3)
abbrev o1 : En → M Fl := sIf (bOr (bVal (xBin (opEq true) (xVar 0) (xC (.str (PySem.Str.ofString "sum"))))) (bVal (xBin (opEq true) (xVar 0) (xC (.str (PySem.Str.ofString "most")))))) (sAsg (xBin (opAdd true) (xVar 3) (xLst false (aCons (xC (.int 1000000000001)) (aCons (xUn opNeg (xC (.int 1000000000001))) (aCons (xC (.str (PySem.Str.ofString "a"))) (aCons (xTup (aCons (xC (.int 1)) (aCons (xC (.int 2)) (aNil)))) (aNil))))))) (.nm 3)) (sIf (bVal (xBin (opEq true) (xVar 0) (xC (.str (PySem.Str.ofString "text"))))) (sAsg (xBin (opAdd true) (xVar 3) (xLst false (aCons (xBin (opMulX false) (xC (.str (PySem.Str.ofString "a"))) (xC (.int 1001))) (aCons (xC (.str (PySem.Str.ofString "aB"))) (aCons (xC (.str (PySem.Str.ofString "a b"))) (aCons (xC (.int 5)) (aCons (xC (.str (PySem.Str.ofString "a\n"))) (aNil)))))))) (.nm 3)) (sIf (bVal (xBin (opEq true) (xVar 0) (xC (.str (PySem.Str.ofString "map"))))) (sSeq (sAsg (xBin (opAdd true) (xVar 3) (xLst false (aCons (xTup (aNil)) (aCons (xBin (opMulX false) (xTup (aCons (xC (.int 0)) (aNil))) (xC (.int 9))) (aCons (xBin (opAdd false) (xBin (opMulX false) (xTup (aCons (xC (.int 0)) (aNil))) (xBin opSub (xVar 2) (xC (.int 1)))) (xTup (aCons (xVar 2) (aNil)))) (aCons (xBin (opMulX false) (xTup (aCons (xUn opNeg (xC (.int 1))) (aNil))) (xVar 2)) (aCons (xBin (opMulX false) (xTup (aCons (xC (.bl true)) (aNil))) (xVar 2)) (aCons (xBin (opMulX false) (xLst false (aCons (xC (.int 0)) (aNil))) (xVar 2)) (aCons (xTup (aCons (xC (.int 0)) (aCons (xC (.str (PySem.Str.ofString "0"))) (aNil)))) (aNil)))))))))) (.nm 3)) (sDrop (xApp (xVar 3) (xUn (opRg true false) (xBin (opAdd false) (xBin opMod (xVar 2) (xC (.int 8))) (xC (.int 1))))))) (sAsg (xBin (opAdd true) (xVar 3) (xLst false (aCons (xTup (aCons (xC (.int 1)) (aCons (xC (.int 2)) (aCons (xC (.int 3)) (aNil))))) (aCons (xTup (aCons (xC (.int 1)) (aNil))) (aCons (xTup (aCons (xC (.int 1000003)) (aCons (xC (.int 0)) (aNil)))) (aCons (xTup (aCons (xC (.int 0)) (aCons (xUn opNeg (xC (.int 1))) (aNil)))) (aCons (xTup (aCons (xC (.int 0)) (aCons (xC (.bl true)) (aNil)))) (aCons (xLst false (aCons (xC (.int 1)) (aCons (xC (.int 2)) (aNil)))) (aCons (xC (.int 7)) (aNil)))))))))) (.nm 3))))
abbrev o2 : En → M Fl := sRet (xBin opIx (xVar 3) (xBin opMod (xVar 1) (xCall opLen (aCons (xVar 3) (aNil)))))
theorem c_odd_eq : c__law_odd = sSeq o0 (sSeq o1 o2) := rfl
abbrev a0 : En → M Fl := sAsg (xBin opIx (xLst false (aCons (xC (.str (PySem.Str.ofString "sum"))) (aCons (xC (.str (PySem.Str.ofString "most"))) (aCons (xC (.str (PySem.Str.ofString "text"))) (aCons (xC (.str (PySem.Str.ofString "map"))) (aCons (xC (.str (PySem.Str.ofString "step"))) (aNil))))))) (xBin opMod (xCallP f__law_cell_at (aCons (xVar 0) (aCons (xC (.int 0)) (aNil)))) (xC (.int 5)))) (.nm 1)
abbrev a1 : En → M Fl := sAsg (xBin (opAdd false) (xC (.int 1)) (xBin opMod (xBin opDiv (xCallP f__law_cell_at (aCons (xVar 0) (aCons (xC (.int 0)) (aNil)))) (xC (.int 5))) (xC (.int 8)))) (.nm 2)
abbrev a2 : En → M Fl := sAsg (xLcN false (itR1 (xC (.int 3))) [13] (.nm 13) (bYes) (xCallP f__law_thing (aCons (xVar 1) (aCons (xCallP f__law_cell_at (aCons (xVar 0) (aCons (xBin (opAdd false) (xC (.int 1)) (xVar 13)) (aNil)))) (aCons (xVar 2) (aNil)))))) (.nm 3)
abbrev a3 : En → M Fl := sAsg (xBin opMod (xBin (opMulX false) (xCallP f__law_cell_at (aCons (xVar 0) (aCons (xC (.int 4)) (aNil)))) (xC (.int 48271))) (xC (.int 2147483647))) (.nm 4)
abbrev a4 : En → M Fl := sIf (bVal (xBin (opEq true) (xBin opMod (xVar 4) (xC (.int 4))) (xC (.int 1)))) (sSeq (sAsg (xCallP f__law_odd (aCons (xVar 1) (aCons (xBin opDiv (xVar 4) (xC (.int 32))) (aCons (xVar 2) (aNil))))) (.nm 5)) (sSeq (sAsg (xBin opIx (xLst false (aCons (xLst false (aCons (xVar 5) (aCons (xBin opIx (xVar 3) (xC (.int 1))) (aNil)))) (aCons (xLst false (aCons (xBin opIx (xVar 3) (xC (.int 0))) (aCons (xVar 5) (aNil)))) (aNil)))) (xBin opMod (xBin opDiv (xVar 4) (xC (.int 4))) (xC (.int 2)))) (.nm 6)) (sSeq (sIf (bVal (xBin (opEq true) (xBin opMod (xBin opDiv (xVar 4) (xC (.int 8))) (xC (.int 4))) (xC (.int 1)))) (sSeq (sAsg (xBin opIx (xLst false (aCons (xC (.str (PySem.Str.ofString "Sum"))) (aCons (xC (.str (PySem.Str.ofString ""))) (aCons (xC .non) (aCons (xC (.int 5)) (aCons (xC (.str (PySem.Str.ofString "texts"))) (aCons (xTup (aCons (xC (.str (PySem.Str.ofString "sum"))) (aNil))) (aCons (xC (.str (PySem.Str.ofString "ma"))) (aNil))))))))) (xBin opMod (xBin opDiv (xVar 4) (xC (.int 32))) (xC (.int 7)))) (.nm 7)) (sRet (xAnd (xBin (opEq true) (xCallP f__law_tried (aCons (xVar 7) (aCons (xBin opIx (xVar 6) (xC (.int 0))) (aCons (xBin opIx (xVar 6) (xC (.int 1))) (aNil))))) (xLst false (aCons (xC (.str (PySem.Str.ofString "kind"))) (aNil)))) (xBin (opEq true) (xCallP f__law_needed (aCons (xVar 7) (aCons (xBin opIx (xVar 3) (xC (.int 0))) (aNil)))) (xLst false (aCons (xC (.str (PySem.Str.ofString "kind"))) (aNil))))))) (sSkip)) (sSeq (sAsg (xAnd (xBin (opEq true) (xVar 1) (xC (.str (PySem.Str.ofString "map")))) (xAnd (xUn (opIs .tuple) (xVar 5)) (xBin (opEq true) (xVar 5) (xUn (opRg true false) (xBin (opAdd false) (xBin opMod (xVar 2) (xC (.int 8))) (xC (.int 1))))))) (.nm 8)) (sSeq (sIf (bVal (xBin (opEq false) (xCallP f__law_tried (aCons (xVar 1) (aCons (xBin opIx (xVar 6) (xC (.int 0))) (aCons (xBin opIx (xVar 6) (xC (.int 1))) (aNil))))) (xLst false (aCons (xC (.str (PySem.Str.ofString "thing"))) (aNil))))) (sRet (xC (.bl false))) (sSkip)) (sRet (xBin (opEq true) (xCallP f__law_needed (aCons (xVar 1) (aCons (xVar 5) (aNil)))) (xBin opIx (xLst false (aCons (xLst false (aCons (xC (.str (PySem.Str.ofString "thing"))) (aNil))) (aCons (xTup (aCons (xC .non) (aNil))) (aNil)))) (xCall opInt (aCons (xVar 8) (aNil))))))))))) (sSkip)
abbrev a5 : En → M Fl := sAsg (xCallP f__law_tried (aCons (xVar 1) (aCons (xBin opIx (xVar 3) (xC (.int 0))) (aCons (xBin opIx (xVar 3) (xC (.int 1))) (aNil))))) (.nm 9)
abbrev a6 : En → M Fl := sAsg (xCallP f__law_join (aCons (xVar 1) (aCons (xBin opIx (xVar 3) (xC (.int 0))) (aCons (xBin opIx (xVar 3) (xC (.int 1))) (aNil))))) (.nm 10)
abbrev a7 : En → M Fl := sIf (bOr (bNot (bVal (xUn (opIs .tuple) (xVar 9)))) (bOr (bNot (bVal (xCallP f__law_alike (aCons (xBin opIx (xVar 9) (xC (.int 0))) (aCons (xVar 10) (aNil)))))) (bVal (xBin (opEq false) (xCallP f__law_needed (aCons (xVar 1) (aCons (xBin opIx (xVar 3) (xC (.int 2))) (aNil)))) (xTup (aCons (xC .non) (aNil))))))) (sRet (xC (.bl false))) (sSkip)
abbrev a8 : En → M Fl := sAsg (xCallP f__law_join (aCons (xVar 1) (aCons (xVar 10) (aCons (xBin opIx (xVar 3) (xC (.int 2))) (aNil))))) (.nm 11)
abbrev a9 : En → M Fl := sIf (bAnd (bVal (xBin (opEq true) (xVar 1) (xC (.str (PySem.Str.ofString "sum"))))) (bVal (xBin opGt (xCall opAbs (aCons (xVar 10) (aNil))) (xC (.int 1000000000000))))) (sRet (xC (.bl true))) (sSkip)
abbrev a10 : En → M Fl := sAsg (xCallP f_joined (aCons (xVar 1) (aCons (xBin opIx (xVar 9) (xC (.int 0))) (aCons (xBin opIx (xVar 3) (xC (.int 2))) (aNil))))) (.nm 12)
abbrev a11 : En → M Fl := sIf (bAnd (bVal (xBin (opEq true) (xVar 1) (xC (.str (PySem.Str.ofString "sum"))))) (bVal (xBin opGt (xCall opAbs (aCons (xBin (opAdd false) (xBin opIx (xVar 3) (xC (.int 1))) (xBin opIx (xVar 3) (xC (.int 2)))) (aNil))) (xC (.int 1000000000000))))) (sRet (xCallP f__law_alike (aCons (xVar 12) (aCons (xVar 11) (aNil))))) (sSkip)
abbrev a12 : En → M Fl := sRet (xAnd (xCallP f__law_alike (aCons (xVar 12) (aCons (xVar 11) (aNil)))) (xBin (opEq true) (xCallP f_joined (aCons (xVar 1) (aCons (xBin opIx (xVar 3) (xC (.int 0))) (aCons (xCallP f_joined (aCons (xVar 1) (aCons (xBin opIx (xVar 3) (xC (.int 1))) (aCons (xBin opIx (xVar 3) (xC (.int 2))) (aNil))))) (aNil))))) (xVar 12)))
theorem c_law_eq : c_law = sSeq a0 (sSeq a1 (sSeq a2 (sSeq a3 (sSeq a4 (sSeq a5 (sSeq a6 (sSeq a7 (sSeq a8 (sSeq a9 (sSeq a10 (sSeq a11 a12))))))))))) := rfl
abbrev b0 : En → M Fl := sAsg (xCallP f__law_odd (aCons (xVar 1) (aCons (xBin opDiv (xVar 4) (xC (.int 32))) (aCons (xVar 2) (aNil))))) (.nm 5)
abbrev b1 : En → M Fl := sAsg (xBin opIx (xLst false (aCons (xLst false (aCons (xVar 5) (aCons (xBin opIx (xVar 3) (xC (.int 1))) (aNil)))) (aCons (xLst false (aCons (xBin opIx (xVar 3) (xC (.int 0))) (aCons (xVar 5) (aNil)))) (aNil)))) (xBin opMod (xBin opDiv (xVar 4) (xC (.int 4))) (xC (.int 2)))) (.nm 6)
abbrev b2 : En → M Fl := sIf (bVal (xBin (opEq true) (xBin opMod (xBin opDiv (xVar 4) (xC (.int 8))) (xC (.int 4))) (xC (.int 1)))) (sSeq (sAsg (xBin opIx (xLst false (aCons (xC (.str (PySem.Str.ofString "Sum"))) (aCons (xC (.str (PySem.Str.ofString ""))) (aCons (xC .non) (aCons (xC (.int 5)) (aCons (xC (.str (PySem.Str.ofString "texts"))) (aCons (xTup (aCons (xC (.str (PySem.Str.ofString "sum"))) (aNil))) (aCons (xC (.str (PySem.Str.ofString "ma"))) (aNil))))))))) (xBin opMod (xBin opDiv (xVar 4) (xC (.int 32))) (xC (.int 7)))) (.nm 7)) (sRet (xAnd (xBin (opEq true) (xCallP f__law_tried (aCons (xVar 7) (aCons (xBin opIx (xVar 6) (xC (.int 0))) (aCons (xBin opIx (xVar 6) (xC (.int 1))) (aNil))))) (xLst false (aCons (xC (.str (PySem.Str.ofString "kind"))) (aNil)))) (xBin (opEq true) (xCallP f__law_needed (aCons (xVar 7) (aCons (xBin opIx (xVar 3) (xC (.int 0))) (aNil)))) (xLst false (aCons (xC (.str (PySem.Str.ofString "kind"))) (aNil))))))) (sSkip)
abbrev b3 : En → M Fl := sAsg (xAnd (xBin (opEq true) (xVar 1) (xC (.str (PySem.Str.ofString "map")))) (xAnd (xUn (opIs .tuple) (xVar 5)) (xBin (opEq true) (xVar 5) (xUn (opRg true false) (xBin (opAdd false) (xBin opMod (xVar 2) (xC (.int 8))) (xC (.int 1))))))) (.nm 8)
abbrev b4 : En → M Fl := sIf (bVal (xBin (opEq false) (xCallP f__law_tried (aCons (xVar 1) (aCons (xBin opIx (xVar 6) (xC (.int 0))) (aCons (xBin opIx (xVar 6) (xC (.int 1))) (aNil))))) (xLst false (aCons (xC (.str (PySem.Str.ofString "thing"))) (aNil))))) (sRet (xC (.bl false))) (sSkip)
abbrev b5 : En → M Fl := sRet (xBin (opEq true) (xCallP f__law_needed (aCons (xVar 1) (aCons (xVar 5) (aNil)))) (xBin opIx (xLst false (aCons (xLst false (aCons (xC (.str (PySem.Str.ofString "thing"))) (aNil))) (aCons (xTup (aCons (xC .non) (aNil))) (aNil)))) (xCall opInt (aCons (xVar 8) (aNil)))))
abbrev aT : En → M Bool := bVal (xBin (opEq true) (xBin opMod (xVar 4) (xC (.int 4))) (xC (.int 1)))
theorem a4_eq : a4 = sIf aT (sSeq b0 (sSeq b1 (sSeq b2 (sSeq b3 (sSeq b4 b5))))) sSkip := rfl
abbrev bT : En → M Bool := bVal (xBin (opEq true) (xBin opMod (xBin opDiv (xVar 4) (xC (.int 8))) (xC (.int 4))) (xC (.int 1)))
abbrev d0 : En → M Fl := sAsg (xBin opIx (xLst false (aCons (xC (.str (PySem.Str.ofString "Sum"))) (aCons (xC (.str (PySem.Str.ofString ""))) (aCons (xC .non) (aCons (xC (.int 5)) (aCons (xC (.str (PySem.Str.ofString "texts"))) (aCons (xTup (aCons (xC (.str (PySem.Str.ofString "sum"))) (aNil))) (aCons (xC (.str (PySem.Str.ofString "ma"))) (aNil))))))))) (xBin opMod (xBin opDiv (xVar 4) (xC (.int 32))) (xC (.int 7)))) (.nm 7)
abbrev d1 : En → M Fl := sRet (xAnd (xBin (opEq true) (xCallP f__law_tried (aCons (xVar 7) (aCons (xBin opIx (xVar 6) (xC (.int 0))) (aCons (xBin opIx (xVar 6) (xC (.int 1))) (aNil))))) (xLst false (aCons (xC (.str (PySem.Str.ofString "kind"))) (aNil)))) (xBin (opEq true) (xCallP f__law_needed (aCons (xVar 7) (aCons (xBin opIx (xVar 3) (xC (.int 0))) (aNil)))) (xLst false (aCons (xC (.str (PySem.Str.ofString "kind"))) (aNil)))))
theorem b2_eq : b2 = sIf bT (sSeq d0 d1) sSkip := rfl
/-! ### the odd ones -/
def base : List D := [.bl true, .non, .lst [.int 1], .dic]
def rep (n : Nat) (d : D) : List D := (List.replicate n [d]).flatten
def oL : Kd → Nat → List D
  | .sum, _ => base ++ [.int 1000000000001, .int (-1000000000001), .str (PySem.Str.ofString "a"), .tup [.int 1, .int 2]]
  | .most, _ => base ++ [.int 1000000000001, .int (-1000000000001), .str (PySem.Str.ofString "a"), .tup [.int 1, .int 2]]
  | .text, _ => base ++ [.str (repS (PySem.Str.ofString "a") 1001), .str (PySem.Str.ofString "aB"), .str (PySem.Str.ofString "a b"), .int 5, .str (PySem.Str.ofString "a\n")]
  | .map, n => base ++ [.tup [], .tup (rep 9 (.int 0)), .tup (rep (n - 1) (.int 0) ++ [.int n]), .tup (rep n (.int (-1))), .tup (rep n (.bl true)), .lst (rep n (.int 0)), .tup [.int 0, .str (PySem.Str.ofString "0")]] ++ [.tup (rngD 0 (n % 8 + 1))]
  | .step, _ => base ++ [.tup [.int 1, .int 2, .int 3], .tup [.int 1], .tup [.int 1000003, .int 0], .tup [.int 0, .int (-1)], .tup [.int 0, .bl true], .lst [.int 1, .int 2], .int 7]
theorem odd_pre (k : Kd) (c : Int) {n : Nat} (h1 : 1 ≤ n) (h8 : n ≤ 8) : o1 [some (.str k.s), some (.int c), some (.int n), some (.ref 0)] [base] = .ok (.nx [some (.str k.s), some (.int c), some (.int n), some (.ref 1)]) [base, oL k n] := by
  cases k with
  | sum => kernel_rfl
  | most => kernel_rfl
  | text => kernel_rfl
  | step => kernel_rfl
  | map => match n, h1, h8 with
    | 1, _, _ => kernel_rfl
    | 2, _, _ => kernel_rfl
    | 3, _, _ => kernel_rfl
    | 4, _, _ => kernel_rfl
    | 5, _, _ => kernel_rfl
    | 6, _, _ => kernel_rfl
    | 7, _, _ => kernel_rfl
    | 8, _, _ => kernel_rfl
def rngT (n : Nat) : D := .tup (rngD 0 (n % 8 + 1))
def eqT (o r : D) (b : Bool) : Bool := match opEq true o r [] with
  | .ok (.bl x) [] => x == b
  | _ => false
def okO (k : Kd) (n : Nat) (o : D) : Bool := noR o && (match f_is_of [.str k.s, o] with
  | .ok (.bl false) => (!(k.b .map) || (!(isD .tuple o) || eqT o (rngT n) false))
  | .ok (.bl true) => k.b .map && (isD .tuple o && (eqT o (rngT n) true && (match o with
    | .tup xs => !(xs.length == n)
    | _ => false)))
  | _ => false)
theorem all_ok (k : Kd) {n : Nat} (h1 : 1 ≤ n) (h8 : n ≤ 8) : (oL k n).all (okO k n) = true := by
  cases k with
  | sum => kernel_rfl
  | most => kernel_rfl
  | text => kernel_rfl
  | step => kernel_rfl
  | map => match n, h1, h8 with
    | 1, _, _ => kernel_rfl
    | 2, _, _ => kernel_rfl
    | 3, _, _ => kernel_rfl
    | 4, _, _ => kernel_rfl
    | 5, _, _ => kernel_rfl
    | 6, _, _ => kernel_rfl
    | 7, _, _ => kernel_rfl
    | 8, _, _ => kernel_rfl
end LK
namespace LK
open L2 G PySem PySem.Spec PyProof.Rows
theorem ix_ref {r : Nat} {xs : List D} {i : Int} {cs : Cs} (hc : cs[r]? = some xs) (h0 : 0 ≤ i) (h : i < xs.length) : opIx (.ref r) (.int i) cs = .ok (xs[i.toNat]'(by omega)) cs := by
  show (match seqOf cs (.ref r) with
    | some xs => M.ofO (atI xs i) cs
    | none => .no) = _
  rw [show seqOf cs (.ref r) = some xs from hc]
  show M.ofO (atI xs i) cs = _
  unfold atI ixN
  rw [if_pos h0, if_pos h, Option.bind_some, List.getElem?_eq_getElem (by omega)]
  rfl
theorem oL_pos (k : Kd) (n : Nat) : 0 < (oL k n).length := by cases k <;> (show 0 < _; simp [oL, base])
theorem odd_ok (k : Kd) (c : Int) {n : Nat} (h1 : 1 ≤ n) (h8 : n ≤ 8) : ∃ o ∈ oL k n, f__law_odd [.str k.s, .int c, .int n] = .ok o := by
  have hp := oL_pos k n
  have g0 : 0 ≤ c % ((oL k n).length : Nat) := Int.emod_nonneg _ (by omega)
  have g1 : c % ((oL k n).length : Nat) < ((oL k n).length : Nat) := Int.emod_lt_of_pos _ (by omega)
  have mem : (oL k n)[(c % ((oL k n).length : Nat)).toNat]'(by omega) ∈ oL k n := List.getElem_mem _
  refine ⟨_, mem, runP_rt (cs := [base, oL k n]) (d := (oL k n)[(c % ((oL k n).length : Nat)).toNat]'(by omega)) ?_ (res_noR ?_ _)⟩
  · refine (seq_nx (e := [some (.str k.s), some (.int c), some (.int n), some (.ref 0)]) (cs1 := [base]) rfl).trans ((seq_nx (odd_pre k c h1 h8)).trans (ret_rt ?_))
    have el : xCall opLen (aCons (xVar 3) aNil) [some (.str k.s), some (.int c), some (.int n), some (.ref 1)] [base, oL k n] = .ok (.int (oL k n).length) [base, oL k n] := (call_ok (cons_ok (var_at rfl) rfl)).trans rfl
    refine (bin_ok (x := .ref 1) (cs1 := [base, oL k n]) rfl (modB (cs1 := [base, oL k n]) (var_at rfl) el (by omega))).trans ?_
    exact ix_ref rfl g0 g1
  · exact (Bool.and_eq_true_iff.mp (List.all_eq_true.mp (all_ok k h1 h8) _ mem)).1
theorem tup_of {o : D} {n : Nat} (h : (match o with
    | .tup xs => !(xs.length == n)
    | _ => false) = true) : ∃ xs, o = .tup xs ∧ xs.length ≠ n := by
  cases o with
  | tup xs => exact ⟨xs, rfl, fun e => by simp [e] at h⟩
  | _ => cases h
theorem rg_ok (n : Nat) : opRg true false (.int ((n : Int) % 8 + 1)) [] = .ok (rngT n) [] := by
  have e : ((n : Int) % 8 + 1).toNat = n % 8 + 1 := by omega
  have h : rgOk 0 ((n : Int) % 8 + 1) = true := Bool.and_eq_true_iff.mpr ⟨decide_eq_true ⟨by omega, by omega, by omega, by omega⟩, decide_eq_true (by omega)⟩
  have e2 : opRg true false (.int ((n : Int) % 8 + 1)) = (if rgOk 0 ((n : Int) % 8 + 1) = true then M.ret (D.tup (rngD 0 ((n : Int) % 8 + 1 - 0).toNat)) else M.no) := by
    unfold opRg
    simp only [if_true]
  rw [e2, if_pos h, Int.sub_zero, e]
  rfl
theorem eq_word (y : X4) (cs : Cs) : opEq true (.lst [.str y.word]) (.lst [.str y.word]) cs = .ok (.bl true) cs := by cases y <;> kernel_rfl
theorem ne_word (y : X4) (cs : Cs) : opEq false (.lst [.str y.word]) (.lst [.str y.word]) cs = .ok (.bl false) cs := by cases y <;> kernel_rfl
/-- no kind -/
def bads : List D := [.str (PySem.Str.ofString "Sum"), .str (PySem.Str.ofString ""), .non, .int 5, .str (PySem.Str.ofString "texts"), .tup [.str (PySem.Str.ofString "sum")], .str (PySem.Str.ofString "ma")]
def isK : Rp → Bool
  | .ex .kind => true
  | _ => false
theorem isK_eq {r : Rp} (h : isK r = true) : r = .ex .kind := by
  unfold isK at h
  split at h
  · rfl
  · cases h
theorem bads_ok : bads.all (fun b => noR b && isK (f_need_kind [b])) = true := by kernel_rfl
theorem bad_need {b d : D} (nb : noR b = true) (nd : noR d = true) (h : f_need_kind [b] = .ex .kind) : f_need_thing [b, d] = .ex .kind := by
  refine runP_ex (cs := []) ?_
  refine seq_ex (drop_ex (callP_ex (xs := [b]) rfl ?_ h))
  show (noR b && true) = true
  rw [nb]
  rfl
theorem nr2 {a b : D} (h : noR a = true) (h2 : noR b = true) : noRL [a, b] = true := by
  show (noR a && (noR b && true)) = true
  rw [h, h2]
  rfl
theorem nr3 {a b c : D} (h : noR a = true) (h2 : noR b = true) (h3 : noR c = true) : noRL [a, b, c] = true := by
  show (noR a && (noR b && (noR c && true))) = true
  rw [h, h2, h3]
  rfl
/-- one odd thing among a pair -/
inductive Pr (o d0 d1 : D) : D → D → Prop
  | one : Pr o d0 d1 o d1
  | two : Pr o d0 d1 d0 o
/-- the branch with something wrong -/
theorem odd_branch {k : Kd} {n : Nat} {c : Int} {d0 d1 d2 s : D} (h1 : 1 ≤ n) (h8 : n ≤ 8) (i0 : Is k n 6 d0) (i1 : Is k n 6 d1) (hc : 0 ≤ c) (h4 : c % 4 = 1) : ∃ cs, a4 [some s, some (.str k.s), some (.int n), some (.lst [d0, d1, d2]), some (.int c), none, none, none, none, none, none, none, none, none] [] = .ok (.rt (.bl true)) cs := by
  obtain ⟨o, ho, eo⟩ := odd_ok k (c / 32) h1 h8
  have oo := List.all_eq_true.mp (all_ok k h1 h8) o ho
  obtain ⟨no, oo⟩ := Bool.and_eq_true_iff.mp oo
  have n0 := noR_is i0
  have n1 := noR_is i1
  have eT : aT [some s, some (.str k.s), some (.int n), some (.lst [d0, d1, d2]), some (.int c), none, none, none, none, none, none, none, none, none] [] = .ok true [] := by
    refine val_b ?_
    rw [bin_ok (modB (cs1 := []) (var_at rfl) (b := 4) rfl (by decide)) (show _ = Rs.ok (D.int 1) [] from rfl), eq_int, if_pos rfl, h4]
    rfl
  have eb0 : b0 [some s, some (.str k.s), some (.int n), some (.lst [d0, d1, d2]), some (.int c), none, none, none, none, none, none, none, none, none] [] = .ok (.nx [some s, some (.str k.s), some (.int n), some (.lst [d0, d1, d2]), some (.int c), some o, none, none, none, none, none, none, none, none]) [] :=
    asg_nm (callP_ok (xs := [.str k.s, .int (c / 32), .int n]) (cons_ok (var_at rfl) (cons_ok (divB (cs1 := []) (var_at rfl) (b := 32) rfl ⟨by decide, by decide⟩) rfl)) rfl eo)
  -- the pair
  obtain ⟨p, q, hp, eb1⟩ : ∃ p q, Pr o d0 d1 p q ∧ b1 [some s, some (.str k.s), some (.int n), some (.lst [d0, d1, d2]), some (.int c), some o, none, none, none, none, none, none, none, none] [] = .ok (.nx [some s, some (.str k.s), some (.int n), some (.lst [d0, d1, d2]), some (.int c), some o, some (.lst [p, q]), none, none, none, none, none, none, none]) [] := by
    obtain ⟨d, hd, e⟩ := pick (xs := [.lst [o, d1], .lst [d0, o]]) (a := (xLst false (aCons (xLst false (aCons (xVar 5) (aCons (xBin opIx (xVar 3) (xC (.int 1))) (aNil)))) (aCons (xLst false (aCons (xBin opIx (xVar 3) (xC (.int 0))) (aCons (xVar 5) (aNil)))) (aNil))))) (b := (xBin opMod (xBin opDiv (xVar 4) (xC (.int 4))) (xC (.int 2)))) (env := [some s, some (.str k.s), some (.int n), some (.lst [d0, d1, d2]), some (.int c), some o, none, none, none, none, none, none, none, none]) (cs := []) (i := c / 4 % 2) rfl (modB (cs1 := []) (divB (cs1 := []) (var_at rfl) (b := 4) rfl ⟨by decide, by decide⟩) (b := 2) rfl (by decide)) (by omega) (by show _ < ((2 : Nat) : Int); omega)
    simp only [List.mem_cons, List.not_mem_nil, or_false] at hd
    rcases hd with rfl | rfl
    · exact ⟨o, d1, .one, asg_nm e⟩
    · exact ⟨d0, o, .two, asg_nm e⟩
  have np : noR p = true ∧ noR q = true := by cases hp <;> exact ⟨by assumption, by assumption⟩
  refine ⟨[], ?_⟩
  rw [a4_eq]
  refine (if_t eT).trans ((seq_nx eb0).trans ((seq_nx eb1).trans ?_))
  have m8 : xBin opMod (xBin opDiv (xVar 4) (xC (.int 8))) (xC (.int 4)) [some s, some (.str k.s), some (.int n), some (.lst [d0, d1, d2]), some (.int c), some o, some (.lst [p, q]), none, none, none, none, none, none, none] [] = .ok (.int (c / 8 % 4)) [] := modB (cs1 := []) (divB (cs1 := []) (var_at rfl) (b := 8) rfl ⟨by decide, by decide⟩) rfl (by decide)
  by_cases h84 : c / 8 % 4 = 1
  · -- no kind
    have ebT : bT [some s, some (.str k.s), some (.int n), some (.lst [d0, d1, d2]), some (.int c), some o, some (.lst [p, q]), none, none, none, none, none, none, none] [] = .ok true [] := by
      refine val_b ?_
      rw [bin_ok m8 (show _ = Rs.ok (D.int 1) [] from rfl), eq_int, if_pos rfl, h84]
      rfl
    obtain ⟨b, hb, eb⟩ := pick (xs := bads) (a := (xLst false (aCons (xC (.str (PySem.Str.ofString "Sum"))) (aCons (xC (.str (PySem.Str.ofString ""))) (aCons (xC .non) (aCons (xC (.int 5)) (aCons (xC (.str (PySem.Str.ofString "texts"))) (aCons (xTup (aCons (xC (.str (PySem.Str.ofString "sum"))) (aNil))) (aCons (xC (.str (PySem.Str.ofString "ma"))) (aNil)))))))))) (b := (xBin opMod (xBin opDiv (xVar 4) (xC (.int 32))) (xC (.int 7)))) (env := [some s, some (.str k.s), some (.int n), some (.lst [d0, d1, d2]), some (.int c), some o, some (.lst [p, q]), none, none, none, none, none, none, none]) (cs := []) (i := c / 32 % 7) rfl (modB (cs1 := []) (divB (cs1 := []) (var_at rfl) (b := 32) rfl ⟨by decide, by decide⟩) (b := 7) rfl (by decide)) (by omega) (by show _ < ((7 : Nat) : Int); omega)
    obtain ⟨nb, kb⟩ := Bool.and_eq_true_iff.mp (List.all_eq_true.mp bads_ok b hb)
    have kb := isK_eq kb
    have t1 := tried_ex (k := b) (a := p) (b := q) .kind (nr3 nb np.1 np.2) (joined_bad1 (nr2 nb np.1) (bad_need nb np.1 kb))
    have t2 := needed_ex (k := b) (a := d0) .kind (nr2 nb n0) (bad_need nb n0 kb)
    rw [b2_eq]
    refine seq_rt ((if_t ebT).trans ((seq_nx (asg_nm eb)).trans (ret_rt ?_)))
    refine (and_v ((bin_ok (callP_ok (xs := [b, p, q]) (cons_ok (var_at rfl) (cons_ok rfl (cons_ok rfl rfl))) (nr3 nb np.1 np.2) t1) (y := .lst [.str X4.kind.word]) (cs2 := []) rfl).trans (eq_word .kind []))).trans ?_
    exact (bin_ok (callP_ok (xs := [b, d0]) (cons_ok (var_at rfl) (cons_ok rfl rfl)) (nr2 nb n0) t2) (y := .lst [.str X4.kind.word]) (cs2 := []) rfl).trans (eq_word .kind [])
  · have ebT : bT [some s, some (.str k.s), some (.int n), some (.lst [d0, d1, d2]), some (.int c), some o, some (.lst [p, q]), none, none, none, none, none, none, none] [] = .ok false [] := by
      refine val_b ?_
      rw [bin_ok m8 (show _ = Rs.ok (D.int 1) [] from rfl), eq_int, if_pos rfl, beq_eq_false_iff_ne.mpr h84]
    refine (seq_nx (e := [some s, some (.str k.s), some (.int n), some (.lst [d0, d1, d2]), some (.int c), some o, some (.lst [p, q]), none, none, none, none, none, none, none]) (cs1 := []) (by rw [b2_eq]; exact (if_f ebT).trans rfl)).trans ?_
    -- alone?
    obtain ⟨al, eal, hal⟩ : ∃ al : Bool, b3 [some s, some (.str k.s), some (.int n), some (.lst [d0, d1, d2]), some (.int c), some o, some (.lst [p, q]), none, none, none, none, none, none, none] [] = .ok (.nx [some s, some (.str k.s), some (.int n), some (.lst [d0, d1, d2]), some (.int c), some o, some (.lst [p, q]), none, some (.bl al), none, none, none, none, none]) [] ∧
        ((al = false ∧ f_is_of [.str k.s, o] = .ok (.bl false)) ∨ (al = true ∧ k = .map ∧ f_is_of [.str k.s, o] = .ok (.bl true) ∧ ∃ xs, o = .tup xs ∧ xs.length ≠ n)) := by
      have ek : xBin (opEq true) (xVar 1) (xC (.str (PySem.Str.ofString "map"))) [some s, some (.str k.s), some (.int n), some (.lst [d0, d1, d2]), some (.int c), some o, some (.lst [p, q]), none, none, none, none, none, none, none] [] = .ok (.bl (k.b .map)) [] := (bin_ok (var_at rfl) rfl).trans (kq k .map [])
      have er : xUn (opRg true false) (xBin (opAdd false) (xBin opMod (xVar 2) (xC (.int 8))) (xC (.int 1))) [some s, some (.str k.s), some (.int n), some (.lst [d0, d1, d2]), some (.int c), some o, some (.lst [p, q]), none, none, none, none, none, none, none] [] = .ok (rngT n) [] := by
        rw [un_ok (addB (modB (cs1 := []) (var_at rfl) (b := 8) rfl (by decide)) (b := 1) rfl)]
        exact rg_ok n
      have et : xUn (opIs .tuple) (xVar 5) [some s, some (.str k.s), some (.int n), some (.lst [d0, d1, d2]), some (.int c), some o, some (.lst [p, q]), none, none, none, none, none, none, none] [] = .ok (.bl (isD .tuple o)) [] := (un_ok (var_at rfl)).trans rfl
      have ee : ∀ b, eqT o (rngT n) b = true → xBin (opEq true) (xVar 5) (xUn (opRg true false) (xBin (opAdd false) (xBin opMod (xVar 2) (xC (.int 8))) (xC (.int 1)))) [some s, some (.str k.s), some (.int n), some (.lst [d0, d1, d2]), some (.int c), some o, some (.lst [p, q]), none, none, none, none, none, none, none] [] = .ok (.bl b) [] := fun b hb => by
        rw [bin_ok (var_at rfl) er]
        unfold eqT at hb
        split at hb
        · rename_i x e
          rw [e, eq_of_beq hb]
        · cases hb
      split at oo
      · rename_i eof
        refine ⟨false, asg_nm ?_, .inl ⟨rfl, eof⟩⟩
        rcases Bool.or_eq_true_iff.mp oo with z | z
        · rw [show k.b .map = false by simpa using z] at ek
          exact and_vf ek
        · by_cases hk : k.b .map = true
          · rw [hk] at ek
            rw [and_v ek]
            rcases Bool.or_eq_true_iff.mp z with z | z
            · rw [show isD .tuple o = false by simpa using z] at et
              exact and_vf et
            · by_cases ht : isD .tuple o = true
              · rw [ht] at et
                rw [and_v et]
                exact ee false z
              · rw [show isD .tuple o = false by simpa using ht] at et
                exact and_vf et
          · rw [show k.b .map = false by simpa using hk] at ek
            exact and_vf ek
      · rename_i eof
        obtain ⟨z1, z⟩ := Bool.and_eq_true_iff.mp oo
        obtain ⟨z2, z⟩ := Bool.and_eq_true_iff.mp z
        obtain ⟨z3, z4⟩ := Bool.and_eq_true_iff.mp z
        rw [z1] at ek
        rw [z2] at et
        refine ⟨true, asg_nm ((and_v ek).trans ((and_v et).trans (ee true z3))), .inr ⟨rfl, (by cases k <;> first | rfl | (cases z1)), eof, ?_⟩⟩
        exact tup_of z4
      · cases oo
    refine (seq_nx eal).trans ?_
    have nk : ∀ d, noR d = true → noRL [.str k.s, d] = true := fun d hd => noR2 hd
    have need0 := need_ok n0 (is_of_ok i0 (by decide))
    have need1 := need_ok n1 (is_of_ok i1 (by decide))
    -- tried says thing
    have et : f_joined [.str k.s, p, q] = .ex .thing := by
      rcases hal with ⟨_, e⟩ | ⟨_, ek, e, xs, ex, hx⟩
      · have nn := need_no no e
        cases hp with
        | one => exact joined_bad1 (nk _ no) nn
        | two => exact joined_bad2 (nk _ n0) need0 (nk _ n1 |> fun _ => nk _ no) nn
      · subst ek
        subst ex
        have nn := need_ok no e
        cases hp with
        | one =>
          cases i1 with
          | map h3 h4 h5 h6 => exact joined_bad3 (nk _ no) nn (nk _ n1) need1 (nk _ (nr2 no n1)) (alike_no (by rw [List.length_map, h3]; exact hx))
        | two =>
          cases i0 with
          | map h3 h4 h5 h6 => exact joined_bad3 (nk _ n0) need0 (nk _ no) nn (nk _ (nr2 n0 no)) (alike_no (by rw [List.length_map, h3]; exact Ne.symm hx))
    have t1 := tried_ex (k := .str k.s) (a := p) (b := q) .thing (noR3 np.1 np.2) et
    have e4 : b4 [some s, some (.str k.s), some (.int n), some (.lst [d0, d1, d2]), some (.int c), some o, some (.lst [p, q]), none, some (.bl al), none, none, none, none, none] [] = .ok (.nx [some s, some (.str k.s), some (.int n), some (.lst [d0, d1, d2]), some (.int c), some o, some (.lst [p, q]), none, some (.bl al), none, none, none, none, none]) [] := by
      refine (if_f (val_b (k := false) ?_)).trans rfl
      exact (bin_ok (callP_ok (xs := [.str k.s, p, q]) (cons_ok (var_at rfl) (cons_ok rfl (cons_ok rfl rfl))) (noR3 np.1 np.2) t1) (y := .lst [.str X4.thing.word]) (cs2 := []) rfl).trans (ne_word .thing [])
    refine (seq_nx e4).trans (ret_rt ?_)
    rcases hal with ⟨ea, e⟩ | ⟨ea, _, e, _⟩
    · subst ea
      have t2 := needed_ex (k := .str k.s) (a := o) .thing (noR2 no) (need_no no e)
      exact (bin_ok (callP_ok (xs := [.str k.s, o]) rfl (noR2 no) t2) (y := .lst [.str X4.thing.word]) (cs2 := []) rfl).trans (eq_word .thing [])
    · subst ea
      have t2 := needed_ok (k := .str k.s) (a := o) (noR2 no) (need_ok no e)
      exact (bin_ok (callP_ok (xs := [.str k.s, o]) rfl (noR2 no) t2) (y := .tup [.non]) (cs2 := []) rfl).trans rfl
end LK
namespace LK
open L2 G PySem PySem.Spec PyProof.Rows
theorem cellAt (ns : List Int) (k : Nat) : ∃ c : Int, f__law_cell_at [.scr ns, .int (k : Int)] = .ok (.int c) := by
  have hl : (xCall opLen (aCons (xVar 0) aNil)) (startE 2 [.scr ns, .int (k : Int)]) [] = .ok (.int ns.length) [] := by
    rw [call_ok (cons_ok (var_at rfl) rfl)]
    show (Rs.ok (D.int ((ns.map D.int).length : Nat)) [] : Rs D) = _
    rw [List.length_map]
  have ht : (bVal (xBin opLt (xVar 1) (xCall opLen (aCons (xVar 0) aNil)))) (startE 2 [.scr ns, .int (k : Int)]) [] = .ok (decide ((k : Int) < ns.length)) [] := by
    refine val_b ?_
    rw [bin_ok (var_at rfl) hl]
    rfl
  by_cases h : k < ns.length
  · rw [decide_eq_true (by omega)] at ht
    refine ⟨ns[k], runP_rt (cs := []) (d := .int ns[k]) (seq_rt ?_) rfl⟩
    rw [if_t ht]
    refine ret_rt ?_
    rw [bin_ok (var_at rfl) (var_at rfl)]
    show M.ofO (atI (ns.map D.int) (k : Int)) [] = _
    rw [atI_map_int ns k h]
    rfl
  · rw [decide_eq_false (by omega)] at ht
    refine ⟨0, runP_rt (cs := []) (d := .int 0) ?_ rfl⟩
    show sSeq _ _ _ _ = _
    rw [seq_nx (if_f ht)]
    rfl
theorem sh_jn {k : Kd} {n m m' : Nat} {a b c : D} (h : Is k n m a) (h2 : Is k n m' b) (j : Jn k a b c) : Sh c := by
  by_cases hk : k.b .sum = true
  · cases k <;> first | (cases hk; done) | skip
    cases j
    exact .int _
  · exact Sh.of (jn_is h h2 j (by simpa using hk))
theorem kd_sum {k : Kd} (h : k.b .sum = true) : k = .sum := by cases k <;> first | rfl | cases h
theorem law_join_gen {k : Kd} {n m m' : Nat} {a b c : D} (j : Jn k a b c) (h2 : Is k n m' b) (hm' : m' ≤ 1000) (hm : m ≤ 1000) (h : k.b .sum = true ∨ Is k n m a) : f__law_join [.str k.s, a, b] = .ok c := by
  rcases h with h | h
  · have := kd_sum h
    subst this
    cases j with
    | sum a b =>
      refine runP_rt (cs := []) (d := .int (a + b)) ?_ rfl
      exact seq_rt ((if_t (kt .sum .sum rfl)).trans rfl)
  · exact law_join_ok h h2 hm hm' j
/-- is it a sum, and too far -/
theorem far_test {k : Kd} {n : Nat} {cc : D} {e : En → M D} {env : En} (he : env[1]? = some (some (.str k.s))) (hx : e env [] = .ok cc []) (hs : k.b .sum = true → ∃ v, cc = .int v) (hi : k.b .sum = false → Is k n 12 cc) :
    (bAnd (bVal (xBin (opEq true) (xVar 1) (xC (.str (PySem.Str.ofString "sum"))))) (bVal (xBin opGt (xCall opAbs (aCons e aNil)) (xC (.int 1000000000000))))) env [] = .ok true [] ∨
    ((bAnd (bVal (xBin (opEq true) (xVar 1) (xC (.str (PySem.Str.ofString "sum"))))) (bVal (xBin opGt (xCall opAbs (aCons e aNil)) (xC (.int 1000000000000))))) env [] = .ok false [] ∧ Is k n 12 cc) := by
  have e1 := kt k .sum (env := env) (cs := []) (i := 1) he
  by_cases hk : k.b .sum = true
  · obtain ⟨v, rfl⟩ := hs hk
    rw [hk] at e1
    have ea : xCall opAbs (aCons e aNil) env [] = .ok (.int (if v < 0 then -v else v)) [] := (call_ok (cons_ok hx rfl)).trans rfl
    have e2 : (bVal (xBin opGt (xCall opAbs (aCons e aNil)) (xC (.int 1000000000000)))) env [] = .ok (decide ((1000000000000 : Int) < (if v < 0 then -v else v))) [] := val_b ((bin_ok ea rfl).trans rfl)
    have := kd_sum hk
    subst this
    by_cases hv : (1000000000000 : Int) < (if v < 0 then -v else v)
    · rw [decide_eq_true hv] at e2
      exact .inl ((and_t e1).trans e2)
    · rw [decide_eq_false hv] at e2
      refine .inr ⟨(and_t e1).trans e2, ?_⟩
      split at hv
      · exact .sum (by unfold far; omega) (by unfold far; omega)
      · exact .sum (by unfold far; omega) (by unfold far; omega)
  · have hk2 : k.b .sum = false := by simpa using hk
    rw [hk2] at e1
    exact .inr ⟨and_f e1, hi hk2⟩
theorem normal {k : Kd} {n : Nat} {d0 d1 d2 s c : D} (i0 : Is k n 6 d0) (i1 : Is k n 6 d1) (i2 : Is k n 6 d2) :
    (sSeq a5 (sSeq a6 (sSeq a7 (sSeq a8 (sSeq a9 (sSeq a10 (sSeq a11 a12))))))) [some s, some (.str k.s), some (.int n), some (.lst [d0, d1, d2]), some c, none, none, none, none, none, none, none, none, none] [] = .ok (.rt (.bl true)) [] := by
  obtain ⟨cc, j1⟩ := jn_ex i0 i1
  have ncc := noR_jn j1
  have n0 := noR_is i0
  have n1 := noR_is i1
  have n2 := noR_is i2
  have shc := sh_jn i0 i1 j1
  -- the first two, joined
  have q1 := tried_ok (k := .str k.s) (a := d0) (b := d1) (noR3 n0 n1) (joined_ok i0 i1 (by decide) (by decide) j1 ncc) ncc
  refine (seq_nx (asg_nm (d := .tup [cc]) (cs1 := []) (callP_ok (xs := [.str k.s, d0, d1]) (cons_ok (var_at rfl) (cons_ok rfl (cons_ok rfl rfl))) (noR3 n0 n1) q1))).trans ?_
  refine (seq_nx (asg_nm (d := cc) (cs1 := []) (callP_ok (xs := [.str k.s, d0, d1]) (cons_ok (var_at rfl) (cons_ok rfl (cons_ok rfl rfl))) (noR3 n0 n1) (law_join_ok i0 i1 (by decide) (by decide) j1)))).trans ?_
  show (sSeq a7 (sSeq a8 (sSeq a9 (sSeq a10 (sSeq a11 a12))))) [some s, some (.str k.s), some (.int n), some (.lst [d0, d1, d2]), some c, none, none, none, none, some (.tup [cc]), some cc, none, none, none] [] = _
  have q7 : (bOr (bNot (bVal (xUn (opIs .tuple) (xVar 9)))) (bOr (bNot (bVal (xCallP f__law_alike (aCons (xBin opIx (xVar 9) (xC (.int 0))) (aCons (xVar 10) (aNil)))))) (bVal (xBin (opEq false) (xCallP f__law_needed (aCons (xVar 1) (aCons (xBin opIx (xVar 3) (xC (.int 2))) (aNil)))) (xTup (aCons (xC .non) (aNil))))))) [some s, some (.str k.s), some (.int n), some (.lst [d0, d1, d2]), some c, none, none, none, none, some (.tup [cc]), some cc, none, none, none] [] = .ok false [] := by
    refine (or_f (show _ = Rs.ok false [] from rfl)).trans ((or_f (not_b (k := true) (val_b (callP_ok (xs := [cc, cc]) (cons_ok rfl (cons_ok (var_at rfl) rfl)) (nr2 ncc ncc) (alike_sh shc))))).trans (val_b (k := false) ?_))
    exact (bin_ok (callP_ok (xs := [.str k.s, d2]) (cons_ok (var_at rfl) (cons_ok rfl rfl)) (noR2 n2) (needed_ok (noR2 n2) (need_ok n2 (is_of_ok i2 (by decide))))) (y := .tup [.non]) (cs2 := []) rfl).trans rfl
  refine (seq_nx ((if_f q7).trans rfl)).trans ?_
  -- the third one, from the left
  have hS : k.b .sum = true → ∃ v, cc = .int v := fun hk => by
    have := kd_sum hk
    subst this
    cases j1
    exact ⟨_, rfl⟩
  obtain ⟨e, j2⟩ : ∃ e, Jn k cc d2 e := by
    by_cases hk : k.b .sum = true
    · obtain ⟨v, rfl⟩ := hS hk
      have := kd_sum hk
      subst this
      cases i2 with
      | sum _ _ => exact ⟨_, .sum _ _⟩
    · exact jn_ex (jn_is i0 i1 j1 (by simpa using hk)) i2
  have ne := noR_jn j2
  have q8 : f__law_join [.str k.s, cc, d2] = .ok e := law_join_gen (n := n) (m := 12) j2 i2 (by decide) (by decide) (by
    by_cases hk : k.b .sum = true
    · exact .inl hk
    · exact .inr (jn_is i0 i1 j1 (by simpa using hk)))
  refine (seq_nx (asg_nm (d := e) (cs1 := []) (callP_ok (xs := [.str k.s, cc, d2]) (cons_ok (var_at rfl) (cons_ok (var_at rfl) (cons_ok rfl rfl))) (noR3 ncc n2) q8))).trans ?_
  show (sSeq a9 (sSeq a10 (sSeq a11 a12))) [some s, some (.str k.s), some (.int n), some (.lst [d0, d1, d2]), some c, none, none, none, none, some (.tup [cc]), some cc, some e, none, none] [] = _
  rcases far_test (k := k) (n := n) (cc := cc) (e := xVar 10) (env := [some s, some (.str k.s), some (.int n), some (.lst [d0, d1, d2]), some c, none, none, none, none, some (.tup [cc]), some cc, some e, none, none]) rfl (var_at rfl) hS (fun hk => jn_is i0 i1 j1 hk) with q9 | ⟨q9, ic⟩
  · exact seq_rt ((if_t q9).trans rfl)
  refine (seq_nx ((if_f q9).trans rfl)).trans ?_
  have she := sh_jn ic i2 j2
  refine (seq_nx (asg_nm (d := e) (cs1 := []) (callP_ok (xs := [.str k.s, cc, d2]) (cons_ok (var_at rfl) (cons_ok rfl (cons_ok rfl rfl))) (noR3 ncc n2) (joined_ok ic i2 (by decide) (by decide) j2 ne)))).trans ?_
  show (sSeq a11 a12) [some s, some (.str k.s), some (.int n), some (.lst [d0, d1, d2]), some c, none, none, none, none, some (.tup [cc]), some cc, some e, some e, none] [] = _
  obtain ⟨f, j3⟩ := jn_ex i1 i2
  have nf := noR_jn j3
  have qa : xCallP f__law_alike (aCons (xVar 12) (aCons (xVar 11) (aNil))) [some s, some (.str k.s), some (.int n), some (.lst [d0, d1, d2]), some c, none, none, none, none, some (.tup [cc]), some cc, some e, some e, none] [] = .ok (.bl true) [] := callP_ok (xs := [e, e]) (cons_ok (var_at rfl) (cons_ok (var_at rfl) rfl)) (nr2 ne ne) (alike_sh she)
  -- the last two first
  have last : Is k n 12 f → a12 [some s, some (.str k.s), some (.int n), some (.lst [d0, d1, d2]), some c, none, none, none, none, some (.tup [cc]), some cc, some e, some e, none] [] = .ok (.rt (.bl true)) [] := fun iF => by
    obtain ⟨e', j4⟩ := jn_ex i0 iF
    have ee := jn_assoc i0 i1 i2 j1 j2 j3 j4
    subst ee
    refine ret_rt ((and_v qa).trans ?_)
    refine (bin_ok (callP_ok (xs := [.str k.s, d0, f]) (cons_ok (var_at rfl) (cons_ok rfl (cons_ok (callP_ok (xs := [.str k.s, d1, d2]) (cons_ok (var_at rfl) (cons_ok rfl (cons_ok rfl rfl))) (noR3 n1 n2) (joined_ok i1 i2 (by decide) (by decide) j3 nf)) rfl))) (noR3 n0 nf) (joined_ok i0 iF (by decide) (by decide) j4 ne)) (var_at rfl)).trans (eq_sh she [])
  by_cases hk : k.b .sum = true
  · have := kd_sum hk
    subst this
    cases i1 with
    | sum _ _ =>
      cases i2 with
      | sum _ _ =>
        rename_i x _ _ y _ _
        have ef := jn_sum_inv j3
        subst ef
        rcases far_test (k := .sum) (n := n) (cc := .int (x + y)) (e := xBin (opAdd false) (xBin opIx (xVar 3) (xC (.int 1))) (xBin opIx (xVar 3) (xC (.int 2)))) (env := [some s, some (.str Kd.sum.s), some (.int n), some (.lst [d0, .int x, .int y]), some c, none, none, none, none, some (.tup [cc]), some cc, some e, some e, none]) rfl rfl (fun _ => ⟨_, rfl⟩) (fun h => by cases h) with q11 | ⟨q11, iF⟩
        · exact seq_rt ((if_t q11).trans (ret_rt qa))
        · exact (seq_nx ((if_f q11).trans rfl)).trans (last iF)
  · have hk2 : k.b .sum = false := by simpa using hk
    have e1 := kt k .sum (env := [some s, some (.str k.s), some (.int n), some (.lst [d0, d1, d2]), some c, none, none, none, none, some (.tup [cc]), some cc, some e, some e, none]) (cs := []) (i := 1) rfl
    rw [hk2] at e1
    exact (seq_nx ((if_f (and_f e1)).trans rfl)).trans (last (jn_is i1 i2 j3 hk2))
theorem cell_call (ns : List Int) {j : En → M D} {env : En} {k : Nat} {c : Int} (he : env[0]? = some (some (.scr ns))) (hj : j env [] = .ok (.int (k : Int)) []) (h : f__law_cell_at [.scr ns, .int (k : Int)] = .ok (.int c)) : xCallP f__law_cell_at (aCons (xVar 0) (aCons j aNil)) env [] = .ok (.int c) [] :=
  callP_ok (xs := [.scr ns, .int (k : Int)]) (cons_ok (var_at he) (cons_ok hj rfl)) rfl h
theorem law_true (ns : List Int) (h : ns.length ≤ 63) : f_law [.scr ns] = .ok (.bl true) := by
  obtain ⟨c0, h0⟩ := cellAt ns 0
  obtain ⟨c1, h1⟩ := cellAt ns 1
  obtain ⟨c2, h2⟩ := cellAt ns 2
  obtain ⟨c3, h3⟩ := cellAt ns 3
  obtain ⟨c4, h4⟩ := cellAt ns 4
  suffices hh : ∃ cs, c_law [some (.scr ns), none, none, none, none, none, none, none, none, none, none, none, none, none] [] = .ok (.rt (.bl true)) cs by
    obtain ⟨cs, hh⟩ := hh
    exact runP_rt (d := .bl true) (cs := cs) hh rfl
  rw [c_law_eq]
  -- the kind
  obtain ⟨k, e0⟩ : ∃ k : Kd, a0 [some (.scr ns), none, none, none, none, none, none, none, none, none, none, none, none, none] [] = .ok (.nx [some (.scr ns), some (.str k.s), none, none, none, none, none, none, none, none, none, none, none, none]) [] := by
    obtain ⟨d, hd, e⟩ := pick (xs := [.str Kd.sum.s, .str Kd.most.s, .str Kd.text.s, .str Kd.map.s, .str Kd.step.s]) (a := xLst false (aCons (xC (.str (PySem.Str.ofString "sum"))) (aCons (xC (.str (PySem.Str.ofString "most"))) (aCons (xC (.str (PySem.Str.ofString "text"))) (aCons (xC (.str (PySem.Str.ofString "map"))) (aCons (xC (.str (PySem.Str.ofString "step"))) (aNil))))))) (b := xBin opMod (xCallP f__law_cell_at (aCons (xVar 0) (aCons (xC (.int 0)) (aNil)))) (xC (.int 5)))
      (env := [some (.scr ns), none, none, none, none, none, none, none, none, none, none, none, none, none]) (cs := []) (i := c0 % 5) rfl (modB (cs1 := []) (cell_call ns (k := 0) rfl rfl h0) rfl (by decide)) (by omega) (by show _ < ((5 : Nat) : Int); omega)
    simp only [List.mem_cons, List.not_mem_nil, or_false] at hd
    rcases hd with rfl | rfl | rfl | rfl | rfl
    · exact ⟨.sum, asg_nm e⟩
    · exact ⟨.most, asg_nm e⟩
    · exact ⟨.text, asg_nm e⟩
    · exact ⟨.map, asg_nm e⟩
    · exact ⟨.step, asg_nm e⟩
  -- how long
  obtain ⟨n, hn1, hn8, en⟩ : ∃ n : Nat, 1 ≤ n ∧ n ≤ 8 ∧ 1 + c0 / 5 % 8 = (n : Int) := ⟨(c0 / 5 % 8).toNat + 1, by omega, by omega, by omega⟩
  have e1 : a1 [some (.scr ns), some (.str k.s), none, none, none, none, none, none, none, none, none, none, none, none] [] = .ok (.nx [some (.scr ns), some (.str k.s), some (.int n), none, none, none, none, none, none, none, none, none, none, none]) [] := by
    rw [← en]
    exact asg_nm (addB (a := 1) (cs1 := []) rfl (modB (cs1 := []) (divB (cs1 := []) (cell_call ns (k := 0) rfl rfl h0) (b := 5) rfl ⟨by decide, by decide⟩) (b := 8) rfl (by decide)))
  -- three things
  obtain ⟨d0, t0, i0⟩ := thing_ok k c1 hn1 hn8
  obtain ⟨d1, t1, i1⟩ := thing_ok k c2 hn1 hn8
  obtain ⟨d2, t2, i2⟩ := thing_ok k c3 hn1 hn8
  have e2 : a2 [some (.scr ns), some (.str k.s), some (.int n), none, none, none, none, none, none, none, none, none, none, none] [] = .ok (.nx [some (.scr ns), some (.str k.s), some (.int n), some (.lst [d0, d1, d2]), none, none, none, none, none, none, none, none, none, none]) [] := by
    refine asg_nm ?_
    rw [lc_map (fun d => match d with
      | .int 0 => d0
      | .int 1 => d1
      | _ => d2) (show itR1 (xC (.int 3)) _ [] = .ok ⟨rngD 0 3, fun _ => true⟩ [] from rfl) rfl rfl fun x hx => ?_]
    · rfl
    · have one : ∀ (i : Nat) (c : Int) (d : D), f__law_cell_at [.scr ns, .int ((1 + i : Nat) : Int)] = .ok (.int c) → f__law_thing [.str k.s, .int c, .int n] = .ok d →
          xCallP f__law_thing (aCons (xVar 1) (aCons (xCallP f__law_cell_at (aCons (xVar 0) (aCons (xBin (opAdd false) (xC (.int 1)) (xVar 13)) (aNil)))) (aCons (xVar 2) (aNil)))) [some (.scr ns), some (.str k.s), some (.int n), none, none, none, none, none, none, none, none, none, none, some (.int (0 + (i : Nat)))] [] = .ok d [] := fun i c d hc hd => by
        refine callP_ok (xs := [.str k.s, .int c, .int n]) (cons_ok (var_at rfl) (cons_ok (cell_call ns (k := 1 + i) rfl ?_ hc) rfl)) rfl hd
        rw [addB (a := 1) (cs1 := []) rfl (var_at rfl)]
        congr 2
        omega
      obtain ⟨i, hi⟩ := List.mem_iff_getElem?.mp hx
      obtain ⟨hlt, rfl⟩ := rngD_get hi
      match i, hlt with
      | 0, _ => exact ⟨_, rfl, one 0 c1 d0 h1 t0⟩
      | 1, _ => exact ⟨_, rfl, one 1 c2 d1 h2 t1⟩
      | 2, _ => exact ⟨_, rfl, one 2 c3 d2 h3 t2⟩
  have e3 : a3 [some (.scr ns), some (.str k.s), some (.int n), some (.lst [d0, d1, d2]), none, none, none, none, none, none, none, none, none, none] [] = .ok (.nx [some (.scr ns), some (.str k.s), some (.int n), some (.lst [d0, d1, d2]), some (.int (mC c4)), none, none, none, none, none, none, none, none, none]) [] :=
    asg_nm (modB (cs1 := []) (mulB (cs1 := []) (cell_call ns (k := 4) rfl rfl h4) (b := 48271) rfl (.inr ⟨by decide, by decide⟩)) (b := 2147483647) rfl (by decide))
  by_cases hq : mC c4 % 4 = 1
  · obtain ⟨cs, e4⟩ := odd_branch (d2 := d2) (s := .scr ns) hn1 hn8 i0 i1 (mC_lo c4) hq
    exact ⟨cs, (seq_nx e0).trans ((seq_nx e1).trans ((seq_nx e2).trans ((seq_nx e3).trans (seq_rt e4))))⟩
  · have eT : aT [some (.scr ns), some (.str k.s), some (.int n), some (.lst [d0, d1, d2]), some (.int (mC c4)), none, none, none, none, none, none, none, none, none] [] = .ok false [] := by
      refine val_b ?_
      rw [bin_ok (modB (cs1 := []) (var_at rfl) (b := 4) rfl (by decide)) (show _ = Rs.ok (D.int 1) [] from rfl), eq_int, if_pos rfl, beq_eq_false_iff_ne.mpr hq]
    have e4 : a4 [some (.scr ns), some (.str k.s), some (.int n), some (.lst [d0, d1, d2]), some (.int (mC c4)), none, none, none, none, none, none, none, none, none] [] = .ok (.nx [some (.scr ns), some (.str k.s), some (.int n), some (.lst [d0, d1, d2]), some (.int (mC c4)), none, none, none, none, none, none, none, none, none]) [] := by
      rw [a4_eq]
      exact (if_f eT).trans rfl
    exact ⟨[], (seq_nx e0).trans ((seq_nx e1).trans ((seq_nx e2).trans ((seq_nx e3).trans ((seq_nx e4).trans (normal i0 i1 i2)))))⟩
end LK
namespace LK
open L2 G PySem PySem.Spec PyProof.Rows
section
def dd_is_whole : He.DefD := ⟨("is_whole", none), "is_whole", "is_whole", defArgs s_is_whole, defBody s_is_whole, defScope s_is_whole, [], []⟩
def dd_is_among : He.DefD := ⟨("is_among", none), "is_among", "is_among", defArgs s_is_among, defBody s_is_among, defScope s_is_among, [], []⟩
def dd_is_text : He.DefD := ⟨("is_text", none), "is_text", "is_text", defArgs s_is_text, defBody s_is_text, defScope s_is_text, [], []⟩
def dd_is_map : He.DefD := ⟨("is_map", none), "is_map", "is_map", defArgs s_is_map, defBody s_is_map, defScope s_is_map, [], []⟩
def dd_is_step : He.DefD := ⟨("is_step", none), "is_step", "is_step", defArgs s_is_step, defBody s_is_step, defScope s_is_step, [], []⟩
def dd_need_kind : He.DefD := ⟨("need_kind", none), "need_kind", "need_kind", defArgs s_need_kind, defBody s_need_kind, defScope s_need_kind, [], []⟩
def dd_is_of : He.DefD := ⟨("is_of", none), "is_of", "is_of", defArgs s_is_of, defBody s_is_of, defScope s_is_of, [], []⟩
def dd_need_thing : He.DefD := ⟨("need_thing", none), "need_thing", "need_thing", defArgs s_need_thing, defBody s_need_thing, defScope s_need_thing, [], []⟩
def dd_need_alike : He.DefD := ⟨("need_alike", none), "need_alike", "need_alike", defArgs s_need_alike, defBody s_need_alike, defScope s_need_alike, [], []⟩
def dd_put_together : He.DefD := ⟨("put_together", none), "put_together", "put_together", defArgs s_put_together, defBody s_put_together, defScope s_put_together, [], []⟩
def dd_joined : He.DefD := ⟨("joined", none), "joined", "joined", defArgs s_joined, defBody s_joined, defScope s_joined, [], []⟩
def dd__law_cell_at : He.DefD := ⟨("_law_cell_at", none), "_law_cell_at", "_law_cell_at", defArgs s__law_cell_at, defBody s__law_cell_at, defScope s__law_cell_at, [], []⟩
def dd__law_whole : He.DefD := ⟨("_law_whole", none), "_law_whole", "_law_whole", defArgs s__law_whole, defBody s__law_whole, defScope s__law_whole, [], []⟩
def dd__law_join : He.DefD := ⟨("_law_join", none), "_law_join", "_law_join", defArgs s__law_join, defBody s__law_join, defScope s__law_join, [], []⟩
def dd__law_alike : He.DefD := ⟨("_law_alike", none), "_law_alike", "_law_alike", defArgs s__law_alike, defBody s__law_alike, defScope s__law_alike, [], []⟩
def dd__law_thing : He.DefD := ⟨("_law_thing", none), "_law_thing", "_law_thing", defArgs s__law_thing, defBody s__law_thing, defScope s__law_thing, [], []⟩
def dd__law_odd : He.DefD := ⟨("_law_odd", none), "_law_odd", "_law_odd", defArgs s__law_odd, defBody s__law_odd, defScope s__law_odd, [], []⟩
def dd__law_word : He.DefD := ⟨("_law_word", none), "_law_word", "_law_word", defArgs s__law_word, defBody s__law_word, defScope s__law_word, [], []⟩
def dd__law_tried : He.DefD := ⟨("_law_tried", none), "_law_tried", "_law_tried", defArgs s__law_tried, defBody s__law_tried, defScope s__law_tried, [], []⟩
def dd__law_needed : He.DefD := ⟨("_law_needed", none), "_law_needed", "_law_needed", defArgs s__law_needed, defBody s__law_needed, defScope s__law_needed, [], []⟩
def dd_law : He.DefD := ⟨("law", none), "law", "law", defArgs s_law, defBody s_law, defScope s_law, [], []⟩
def fn0 : List He.DefD := [dd_is_whole, dd_is_among, dd_is_text, dd_is_map, dd_is_step, dd_need_kind, dd_is_of, dd_need_thing, dd_need_alike, dd_put_together, dd_joined, dd__law_cell_at, dd__law_whole, dd__law_join, dd__law_alike, dd__law_thing, dd__law_odd, dd__law_word, dd__law_tried, dd__law_needed, dd_law]
def fn : List He.DefD := fn0
def fa0 : List He.Fa := [.glo "is_whole", .glo "is_among", .glo "is_text", .glo "is_map", .glo "is_step", .glo "need_kind", .glo "is_of", .glo "need_thing", .glo "need_alike", .glo "put_together", .glo "joined", .glo "_law_cell_at", .glo "_law_whole", .glo "_law_join", .glo "_law_alike", .glo "_law_thing", .glo "_law_odd", .glo "_law_word", .glo "_law_tried", .glo "_law_needed", .glo "law", .glo "BadLines", .exc "BadLines", .glo "BadThing", .exc "BadThing"]
def fa1 : List He.Fa := [.glo "BadKind", .exc "BadKind", .glo "NoNet", .exc "NoNet", .glo "NetError", .glo "BadNet", .free "len", .free "isinstance", .free "range", .free "int", .free "bool", .free "str", .free "tuple", .free "list", .free "max", .free "min", .free "sum", .free "all", .free "sorted", .free "reversed", .free "zip", .free "abs", .free "ValueError", .int "FAR" 1000000000000, .int "MOST_SIGNS" 1000]
def fa2 : List He.Fa := [.int "MOST_PLACES" 8, .int "RING" 1000003, .str "LETTERS" "abcdefghijklmnopqrstuvwxyz", .glo "KINDS"]
def fa : List He.Fa := fa0 ++ fa1 ++ fa2
abbrev R : PySem.W.OpenRow := PySem.W.OpenLaw.row PySem.Challenge.rw_beginnet_k01_joining
def kindsD : List He.Dv := [.str "sum", .str "most", .str "text", .str "map", .str "step"]
def exB (K : PySem.W.Frag) : Bool := xtB K && He.tupB K "KINDS" kindsD
abbrev hk : PySem.W.Hook := hookX 5 fa fn exB
def ob (s : PySem.W.SharedT) : AlX := obsXG 5 fa fn exB (HandSHeadRun.getT s)
theorem ob_eq (s : PySem.W.SharedT) : ob s = hk.obs s.abs := obsXG_eq (HandSHeadRun.getT_eq s)
def loose0 : List PySem.Str := ["NetError", "BadNet", "BadLines", "BadThing", "BadKind", "NoNet", "KINDS", "FAR", "MOST_SIGNS", "MOST_PLACES", "RING", "LETTERS", "is_whole", "is_among", "is_text", "is_map", "is_step", "need_kind", "is_of", "need_thing", "need_alike", "put_together", "joined", "_law_cell_at", "_law_whole"]
def loose1 : List PySem.Str := ["_law_join", "_law_alike", "_law_thing", "_law_odd", "_law_word", "_law_tried", "_law_needed"]
def loose : List PySem.Str := loose0 ++ loose1
theorem run (w : World) : HandSHeadRun.RunEq R (PySem.W.view R.prog [35]) hk ob 4000 loose w := by
  intro os
  kernel_rfl
theorem bt_of {K : PySem.W.Frag} {h : Heap} {mg : Str → Option Value} (X : K.In h) (Gn : h.Ns mainGlobals mg) (c : He.SaysD fa fn K) (cx : exB K = true) : Bt K mg (ctOf K) where
  len := He.free_ok X Gn (c.fact 31 (f := .free "len") rfl)
  isinstance := He.free_ok X Gn (c.fact 32 (f := .free "isinstance") rfl)
  range := He.free_ok X Gn (c.fact 33 (f := .free "range") rfl)
  int := He.free_ok X Gn (c.fact 34 (f := .free "int") rfl)
  bool := He.free_ok X Gn (c.fact 35 (f := .free "bool") rfl)
  str := He.free_ok X Gn (c.fact 36 (f := .free "str") rfl)
  tuple := He.free_ok X Gn (c.fact 37 (f := .free "tuple") rfl)
  list := He.free_ok X Gn (c.fact 38 (f := .free "list") rfl)
  max := He.free_ok X Gn (c.fact 39 (f := .free "max") rfl)
  min := He.free_ok X Gn (c.fact 40 (f := .free "min") rfl)
  sum := He.free_ok X Gn (c.fact 41 (f := .free "sum") rfl)
  all := He.free_ok X Gn (c.fact 42 (f := .free "all") rfl)
  sorted := He.free_ok X Gn (c.fact 43 (f := .free "sorted") rfl)
  reversed := He.free_ok X Gn (c.fact 44 (f := .free "reversed") rfl)
  zip := He.free_ok X Gn (c.fact 45 (f := .free "zip") rfl)
  abs := He.free_ok X Gn (c.fact 46 (f := .free "abs") rfl)
  x_lines := by
    obtain ⟨e1, e2, e3, e4⟩ := He.exc_ok (c.fact 22 (f := .exc "BadLines") rfl)
    exact ⟨e1, He.glo_ok X Gn (c.fact 21 (f := .glo "BadLines") rfl), e2, e3, e4⟩
  x_thing := by
    obtain ⟨e1, e2, e3, e4⟩ := He.exc_ok (c.fact 24 (f := .exc "BadThing") rfl)
    exact ⟨e1, He.glo_ok X Gn (c.fact 23 (f := .glo "BadThing") rfl), e2, e3, e4⟩
  x_kind := by
    obtain ⟨e1, e2, e3, e4⟩ := He.exc_ok (c.fact 26 (f := .exc "BadKind") rfl)
    exact ⟨e1, He.glo_ok X Gn (c.fact 25 (f := .glo "BadKind") rfl), e2, e3, e4⟩
  x_nonet := by
    obtain ⟨e1, e2, e3, e4⟩ := He.exc_ok (c.fact 28 (f := .exc "NoNet") rfl)
    exact ⟨e1, He.glo_ok X Gn (c.fact 27 (f := .glo "NoNet") rfl), e2, e3, e4⟩
  c_FAR := He.int_ok X Gn (c.fact 48 (f := .int "FAR" 1000000000000) rfl)
  c_MOST_SIGNS := He.int_ok X Gn (c.fact 49 (f := .int "MOST_SIGNS" 1000) rfl)
  c_MOST_PLACES := He.int_ok X Gn (c.fact 50 (f := .int "MOST_PLACES" 8) rfl)
  c_RING := He.int_ok X Gn (c.fact 51 (f := .int "RING" 1000003) rfl)
  c_LETTERS := He.str_ok X Gn (c.fact 52 (f := .str "LETTERS" "abcdefghijklmnopqrstuvwxyz") rfl)
  kinds := ⟨_, He.glo_ok X Gn (c.fact 53 (f := .glo "KINDS") rfl), fun H => He.tupB_ok (He.ba cx).2 H⟩
theorem facts {P : Program} {w : World} {K : PySem.W.Frag} {h : Heap} {mg : Str → Option Value} {f : Addr} (X : K.In h) (Gn : h.Ns mainGlobals mg) (hfa : mg ("law" : Str) = some (.ref f)) (c : He.SaysD fa fn K) (cx : exB K = true) :
    ∃ fd : FuncData, (∀ (s : Shared) (v : Value), BindsTo s fd ⟨[v], []⟩ [("_law_script", v)]) ∧ ∀ base : Heap, K.In base → base.Ns mainGlobals mg → FnOk P w K mg base (L2.CX P w) 9 f fd ["_law_script"] (spP K (ctOf K) 1 f_law) := by
  have B := bt_of X Gn c cx
  have T := xtB_ok X Gn (c.fact 29 (f := .glo "NetError") rfl) (c.fact 30 (f := .glo "BadNet") rfl) (c.fact 47 (f := .free "ValueError") rfl) (He.ba cx).1
  obtain ⟨fd_is_whole, F_is_whole⟩ := c.def_ 0 (d := dd_is_whole) rfl
  have E_is_whole : ∃ fa fd, mg "is_whole" = some (.ref fa) ∧ FunG K "is_whole" s_is_whole fa fd := ⟨_, fd_is_whole, He.glo_ok X Gn (c.fact 0 (f := .glo "is_whole") rfl), F_is_whole⟩
  obtain ⟨fd_is_among, F_is_among⟩ := c.def_ 1 (d := dd_is_among) rfl
  have E_is_among : ∃ fa fd, mg "is_among" = some (.ref fa) ∧ FunG K "is_among" s_is_among fa fd := ⟨_, fd_is_among, He.glo_ok X Gn (c.fact 1 (f := .glo "is_among") rfl), F_is_among⟩
  obtain ⟨fd_is_text, F_is_text⟩ := c.def_ 2 (d := dd_is_text) rfl
  have E_is_text : ∃ fa fd, mg "is_text" = some (.ref fa) ∧ FunG K "is_text" s_is_text fa fd := ⟨_, fd_is_text, He.glo_ok X Gn (c.fact 2 (f := .glo "is_text") rfl), F_is_text⟩
  obtain ⟨fd_is_map, F_is_map⟩ := c.def_ 3 (d := dd_is_map) rfl
  have E_is_map : ∃ fa fd, mg "is_map" = some (.ref fa) ∧ FunG K "is_map" s_is_map fa fd := ⟨_, fd_is_map, He.glo_ok X Gn (c.fact 3 (f := .glo "is_map") rfl), F_is_map⟩
  obtain ⟨fd_is_step, F_is_step⟩ := c.def_ 4 (d := dd_is_step) rfl
  have E_is_step : ∃ fa fd, mg "is_step" = some (.ref fa) ∧ FunG K "is_step" s_is_step fa fd := ⟨_, fd_is_step, He.glo_ok X Gn (c.fact 4 (f := .glo "is_step") rfl), F_is_step⟩
  obtain ⟨fd_need_kind, F_need_kind⟩ := c.def_ 5 (d := dd_need_kind) rfl
  have E_need_kind : ∃ fa fd, mg "need_kind" = some (.ref fa) ∧ FunG K "need_kind" s_need_kind fa fd := ⟨_, fd_need_kind, He.glo_ok X Gn (c.fact 5 (f := .glo "need_kind") rfl), F_need_kind⟩
  obtain ⟨fd_is_of, F_is_of⟩ := c.def_ 6 (d := dd_is_of) rfl
  have E_is_of : ∃ fa fd, mg "is_of" = some (.ref fa) ∧ FunG K "is_of" s_is_of fa fd := ⟨_, fd_is_of, He.glo_ok X Gn (c.fact 6 (f := .glo "is_of") rfl), F_is_of⟩
  obtain ⟨fd_need_thing, F_need_thing⟩ := c.def_ 7 (d := dd_need_thing) rfl
  have E_need_thing : ∃ fa fd, mg "need_thing" = some (.ref fa) ∧ FunG K "need_thing" s_need_thing fa fd := ⟨_, fd_need_thing, He.glo_ok X Gn (c.fact 7 (f := .glo "need_thing") rfl), F_need_thing⟩
  obtain ⟨fd_need_alike, F_need_alike⟩ := c.def_ 8 (d := dd_need_alike) rfl
  have E_need_alike : ∃ fa fd, mg "need_alike" = some (.ref fa) ∧ FunG K "need_alike" s_need_alike fa fd := ⟨_, fd_need_alike, He.glo_ok X Gn (c.fact 8 (f := .glo "need_alike") rfl), F_need_alike⟩
  obtain ⟨fd_put_together, F_put_together⟩ := c.def_ 9 (d := dd_put_together) rfl
  have E_put_together : ∃ fa fd, mg "put_together" = some (.ref fa) ∧ FunG K "put_together" s_put_together fa fd := ⟨_, fd_put_together, He.glo_ok X Gn (c.fact 9 (f := .glo "put_together") rfl), F_put_together⟩
  obtain ⟨fd_joined, F_joined⟩ := c.def_ 10 (d := dd_joined) rfl
  have E_joined : ∃ fa fd, mg "joined" = some (.ref fa) ∧ FunG K "joined" s_joined fa fd := ⟨_, fd_joined, He.glo_ok X Gn (c.fact 10 (f := .glo "joined") rfl), F_joined⟩
  obtain ⟨fd__law_cell_at, F__law_cell_at⟩ := c.def_ 11 (d := dd__law_cell_at) rfl
  have E__law_cell_at : ∃ fa fd, mg "_law_cell_at" = some (.ref fa) ∧ FunG K "_law_cell_at" s__law_cell_at fa fd := ⟨_, fd__law_cell_at, He.glo_ok X Gn (c.fact 11 (f := .glo "_law_cell_at") rfl), F__law_cell_at⟩
  obtain ⟨fd__law_whole, F__law_whole⟩ := c.def_ 12 (d := dd__law_whole) rfl
  have E__law_whole : ∃ fa fd, mg "_law_whole" = some (.ref fa) ∧ FunG K "_law_whole" s__law_whole fa fd := ⟨_, fd__law_whole, He.glo_ok X Gn (c.fact 12 (f := .glo "_law_whole") rfl), F__law_whole⟩
  obtain ⟨fd__law_join, F__law_join⟩ := c.def_ 13 (d := dd__law_join) rfl
  have E__law_join : ∃ fa fd, mg "_law_join" = some (.ref fa) ∧ FunG K "_law_join" s__law_join fa fd := ⟨_, fd__law_join, He.glo_ok X Gn (c.fact 13 (f := .glo "_law_join") rfl), F__law_join⟩
  obtain ⟨fd__law_alike, F__law_alike⟩ := c.def_ 14 (d := dd__law_alike) rfl
  have E__law_alike : ∃ fa fd, mg "_law_alike" = some (.ref fa) ∧ FunG K "_law_alike" s__law_alike fa fd := ⟨_, fd__law_alike, He.glo_ok X Gn (c.fact 14 (f := .glo "_law_alike") rfl), F__law_alike⟩
  obtain ⟨fd__law_thing, F__law_thing⟩ := c.def_ 15 (d := dd__law_thing) rfl
  have E__law_thing : ∃ fa fd, mg "_law_thing" = some (.ref fa) ∧ FunG K "_law_thing" s__law_thing fa fd := ⟨_, fd__law_thing, He.glo_ok X Gn (c.fact 15 (f := .glo "_law_thing") rfl), F__law_thing⟩
  obtain ⟨fd__law_odd, F__law_odd⟩ := c.def_ 16 (d := dd__law_odd) rfl
  have E__law_odd : ∃ fa fd, mg "_law_odd" = some (.ref fa) ∧ FunG K "_law_odd" s__law_odd fa fd := ⟨_, fd__law_odd, He.glo_ok X Gn (c.fact 16 (f := .glo "_law_odd") rfl), F__law_odd⟩
  obtain ⟨fd__law_word, F__law_word⟩ := c.def_ 17 (d := dd__law_word) rfl
  have E__law_word : ∃ fa fd, mg "_law_word" = some (.ref fa) ∧ FunG K "_law_word" s__law_word fa fd := ⟨_, fd__law_word, He.glo_ok X Gn (c.fact 17 (f := .glo "_law_word") rfl), F__law_word⟩
  obtain ⟨fd__law_tried, F__law_tried⟩ := c.def_ 18 (d := dd__law_tried) rfl
  have E__law_tried : ∃ fa fd, mg "_law_tried" = some (.ref fa) ∧ FunG K "_law_tried" s__law_tried fa fd := ⟨_, fd__law_tried, He.glo_ok X Gn (c.fact 18 (f := .glo "_law_tried") rfl), F__law_tried⟩
  obtain ⟨fd__law_needed, F__law_needed⟩ := c.def_ 19 (d := dd__law_needed) rfl
  have E__law_needed : ∃ fa fd, mg "_law_needed" = some (.ref fa) ∧ FunG K "_law_needed" s__law_needed fa fd := ⟨_, fd__law_needed, He.glo_ok X Gn (c.fact 19 (f := .glo "_law_needed") rfl), F__law_needed⟩
  obtain ⟨fd_law, F_law⟩ := c.def_ 20 (d := dd_law) rfl
  have E_law : ∃ fa fd, mg "law" = some (.ref fa) ∧ FunG K "law" s_law fa fd := ⟨_, fd_law, He.glo_ok X Gn (c.fact 20 (f := .glo "law") rfl), F_law⟩
  have e := hfa.symm.trans (He.glo_ok X Gn (c.fact 20 (f := .glo "law") rfl))
  cases e
  have b := FunD.bindsA (ps := ["_law_script"]) F_law fun _ _ _ _ _ _ us hl => match us, hl with | [_], _ => rfl
  refine ⟨fd_law, fun s v => b s [v] rfl, fun base _ _ => ?_⟩
  have H_is_whole := d_is_whole (P := P) (w := w) (base := base) E_is_whole B T ⟨trivial⟩
  have H_is_text := d_is_text (P := P) (w := w) (base := base) E_is_text B T ⟨trivial⟩
  have H_need_kind := d_need_kind (P := P) (w := w) (base := base) E_need_kind B T ⟨trivial⟩
  have H_need_alike := d_need_alike (P := P) (w := w) (base := base) E_need_alike B T ⟨trivial⟩
  have H_put_together := d_put_together (P := P) (w := w) (base := base) E_put_together B T ⟨trivial⟩
  have H__law_cell_at := d__law_cell_at (P := P) (w := w) (base := base) E__law_cell_at B T ⟨trivial⟩
  have H__law_whole := d__law_whole (P := P) (w := w) (base := base) E__law_whole B T ⟨trivial⟩
  have H__law_join := d__law_join (P := P) (w := w) (base := base) E__law_join B T ⟨trivial⟩
  have H__law_thing := d__law_thing (P := P) (w := w) (base := base) E__law_thing B T ⟨trivial⟩
  have H__law_odd := d__law_odd (P := P) (w := w) (base := base) E__law_odd B T ⟨trivial⟩
  have H__law_word := d__law_word (P := P) (w := w) (base := base) E__law_word B T ⟨trivial⟩
  have H_is_among := d_is_among (P := P) (w := w) (base := base) E_is_among B T ⟨H_is_whole, trivial⟩
  have H__law_alike := d__law_alike (P := P) (w := w) (base := base) E__law_alike B T ⟨H__law_whole, trivial⟩
  have H_is_map := d_is_map (P := P) (w := w) (base := base) E_is_map B T ⟨H_is_among, trivial⟩
  have H_is_step := d_is_step (P := P) (w := w) (base := base) E_is_step B T ⟨H_is_among, trivial⟩
  have H_is_of := d_is_of (P := P) (w := w) (base := base) E_is_of B T ⟨H_is_text, H_is_map, H_is_step, H_is_among, trivial⟩
  have H_need_thing := d_need_thing (P := P) (w := w) (base := base) E_need_thing B T ⟨H_need_kind, H_is_of, trivial⟩
  have H_joined := d_joined (P := P) (w := w) (base := base) E_joined B T ⟨H_need_thing, H_need_alike, H_put_together, trivial⟩
  have H__law_needed := d__law_needed (P := P) (w := w) (base := base) E__law_needed B T ⟨H_need_thing, H__law_word, trivial⟩
  have H__law_tried := d__law_tried (P := P) (w := w) (base := base) E__law_tried B T ⟨H_joined, H__law_word, trivial⟩
  exact d_law F_law B T ⟨H__law_cell_at, H__law_thing, H__law_odd, H__law_tried, H__law_needed, H__law_join, H__law_alike, H_joined, trivial⟩
end
end LK
open PyProof.Rows PySem PySem.W PySem.Calls
theorem PySem.Challenge.cw_beginnet_k01_joining_holds : PySem.Challenge.rw_beginnet_k01_joining.Holds := by
  w_on; o_law
  refine HandSHeadRun.head_any (r := OpenLaw.row PySem.Challenge.rw_beginnet_k01_joining) (q := view (OpenLaw.row PySem.Challenge.rw_beginnet_k01_joining).prog [35]) (H := LK.hk) (ob := LK.ob) (M := 4000) (loose := LK.loose) (d := HandSHeadRun.topDef (OpenLaw.row PySem.Challenge.rw_beginnet_k01_joining).prog 35) (kwd := []) LK.ob_eq
    (by kernel_rfl) (fun s => by kernel_rfl) LK.run (by kernel_rfl) (by kernel_rfl) (by kernel_rfl) (by rfl) (by first | assumption | decide +kernel) (by decide +kernel) ⟨rfl, rfl, rfl, rfl, rfl, by decide +kernel⟩ ?hw ?hc
  case hw => w_witness2
  case hc =>
    refine G.walk_own (l := PySem.Challenge.rw_beginnet_k01_joining) (n := 63) (k := 9) (x := "_law_script") rfl (by decide) (by kernel_rfl) ⟨rfl, by decide, by decide⟩ ?F
    intro w mg fa h Y Gn hmg0
    obtain ⟨K, KX, c, cx⟩ := Y
    have hmg : mg ("law" : PySem.Str) = some (.ref fa) := by
      have e : (HandSHeadRun.topDef (OpenLaw.row PySem.Challenge.rw_beginnet_k01_joining).prog 35).name = ("law" : PySem.Str) := by kernel_rfl
      rw [← e]
      exact hmg0
    obtain ⟨fd, hb, hF⟩ := LK.facts (P := (PySem.Challenge.rw_beginnet_k01_joining).prog) (w := w) KX Gn hmg c cx
    exact ⟨K, fd, G.ctOf K, LK.f_law, KX, hb, fun ns hl => LK.law_true ns hl, hF⟩
