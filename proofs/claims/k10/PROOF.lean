import PyProof.Rows.All
import HandS.ForMost
import HandS.IsInst
import HandS.SortInts
import HandS.TupAny
import HandS.TupMul
import HandS.Style
import HandS.WideBits
import HandS.Zip
import HandS.RaiseMore
import PyProof.ReprReads
import KE.GoesMore
import HandS.Walk
import HandS.Strs
import HandS.SetFor
import HandS.Conv
import HandS.Defaults
import HandS.Ends
import HandS.Head0
import HandS.Head1
import HandS.Head2
import HandS.HeadEnd
import HandS.HeadHook1
import HandS.HeadHook2
import Wide.All
import OpenK.AllK
import Wide.FinOn
import KE.KStateDown
import PySem.Challenge.RW_caseworks_k10_any_value_as_sheet
set_option Elab.async false
set_option linter.all false
set_option maxRecDepth 100000
set_option maxHeartbeats 1000000
namespace DL
open PySem PySem.Spec PyProof.Rows L2
set_option autoImplicit false

abbrev St := L2.St
def keyD : Key → PyData
  | .inl i => .int i
  | .inr s => .str s

mutual
/-- the value v stands for the datum d, by the settled part F of the heap alone -/
inductive Rp (K : PySem.W.Frag) (F : Hp) : V → PyData → Prop
  | non : Rp K F .non .none
  | bl (b : Bool) : Rp K F (.bl b) (.bool b)
  | int (i : Int) : Rp K F (.int i) (.int i)
  | str (x : Str) : Rp K F (.str x) (.str x)
  | lst {a : Addr} {xs : List V} {ds : List PyData} : SqL K F a xs → RpA K F xs ds → Rp K F (.ref a) (.list ds)
  | tup {a : Addr} {xs : List V} {ds : List PyData} : SqT K F a xs → RpA K F xs ds → Rp K F (.ref a) (.tuple ds)
  | dct {a : Addr} : F a = some (.dK []) → Rp K F (.ref a) (.dict [])
inductive RpA (K : PySem.W.Frag) (F : Hp) : List V → List PyData → Prop
  | nil : RpA K F [] []
  | cons {v : V} {vs : List V} {d : PyData} {ds : List PyData} : Rp K F v d → RpA K F vs ds → RpA K F (v :: vs) (d :: ds)
end

theorem seqT_mono {K : PySem.W.Frag} {F F' : Hp} {a : Addr} {xs : List V} (e : Same F F') (h : SqT K F a xs) : SqT K F' a xs := by
  rcases h with (h | ⟨o, h⟩) | h
  · exact .inl (.inl (e _ _ h))
  · exact .inl (.inr ⟨o, e _ _ h⟩)
  · exact .inr h

mutual
theorem Rp.mono {K : PySem.W.Frag} {F F' : Hp} (e : Same F F') : ∀ {v : V} {d : PyData}, Rp K F v d → Rp K F' v d
  | _, _, .non => .non
  | _, _, .bl b => .bl b
  | _, _, .int i => .int i
  | _, _, .str x => .str x
  | _, _, .lst h r => .lst (e.seq h) (RpA.mono e r)
  | _, _, .tup h r => .tup (seqT_mono e h) (RpA.mono e r)
  | _, _, .dct h => .dct (e _ _ h)
theorem RpA.mono {K : PySem.W.Frag} {F F' : Hp} (e : Same F F') : ∀ {vs : List V} {ds : List PyData}, RpA K F vs ds → RpA K F' vs ds
  | _, _, .nil => .nil
  | _, _, .cons r t => .cons (Rp.mono e r) (RpA.mono e t)
end

section
variable {K : PySem.W.Frag} {F : Hp}
theorem RpA.length : ∀ {vs : List V} {ds : List PyData}, RpA K F vs ds → vs.length = ds.length
  | _, _, .nil => rfl
  | _, _, .cons _ t => by rw [List.length_cons, List.length_cons, RpA.length t]
theorem RpA.get : ∀ {vs : List V} {ds : List PyData} {i : Nat} {d : PyData}, RpA K F vs ds → ds[i]? = some d → ∃ v, vs[i]? = some v ∧ Rp K F v d
  | _, _, _, _, .nil, e => by simp at e
  | _, _, 0, _, .cons r _, e => by simp at e; subst e; exact ⟨_, rfl, r⟩
  | _, _, i + 1, d, .cons _ t, e => by
    obtain ⟨v, h1, h2⟩ := RpA.get (i := i) (d := d) t (by simpa using e)
    exact ⟨v, by simpa using h1, h2⟩
theorem RpA.getV : ∀ {vs : List V} {ds : List PyData} {i : Nat} {v : V}, RpA K F vs ds → vs[i]? = some v → ∃ d, ds[i]? = some d ∧ Rp K F v d
  | _, _, _, _, .nil, e => by simp at e
  | _, _, 0, _, .cons r _, e => by simp at e; subst e; exact ⟨_, rfl, r⟩
  | _, _, i + 1, d, .cons _ t, e => by
    obtain ⟨v, h1, h2⟩ := RpA.getV (i := i) (v := d) t (by simpa using e)
    exact ⟨v, by simpa using h1, h2⟩
theorem RpA.append : ∀ {vs ws : List V} {ds es : List PyData}, RpA K F vs ds → RpA K F ws es → RpA K F (vs ++ ws) (ds ++ es)
  | _, _, _, _, .nil, s => s
  | _, _, _, _, .cons r t, s => .cons r (RpA.append t s)
theorem RpA.take : ∀ {vs : List V} {ds : List PyData} (n : Nat), RpA K F vs ds → RpA K F (vs.take n) (ds.take n)
  | _, _, 0, _ => .nil
  | _, _, _ + 1, .nil => .nil
  | _, _, n + 1, .cons r t => .cons r (RpA.take n t)
theorem RpA.drop : ∀ {vs : List V} {ds : List PyData} (n : Nat), RpA K F vs ds → RpA K F (vs.drop n) (ds.drop n)
  | _, _, 0, r => r
  | _, _, _ + 1, .nil => .nil
  | _, _, n + 1, .cons _ t => RpA.drop n t
theorem RpA.set {v : V} {d : PyData} (r : Rp K F v d) : ∀ {vs : List V} {ds : List PyData} (i : Nat), RpA K F vs ds → RpA K F (vs.set i v) (ds.set i d)
  | _, _, _, .nil => .nil
  | _, _, 0, .cons _ t => .cons r t
  | _, _, i + 1, .cons q t => .cons q (RpA.set r i t)
theorem RpA.ints : ∀ (ns : List Int), RpA K F (ns.map V.int) (ns.map PyData.int)
  | [] => .nil
  | n :: ns => .cons (.int n) (RpA.ints ns)
theorem RpA.bools : ∀ (ns : List Bool), RpA K F (ns.map V.bl) (ns.map PyData.bool)
  | [] => .nil
  | n :: ns => .cons (.bl n) (RpA.bools ns)
theorem RpA.strs : ∀ (ns : List Str), RpA K F (ns.map V.str) (ns.map PyData.str)
  | [] => .nil
  | n :: ns => .cons (.str n) (RpA.strs ns)
/-- values of ints are those ints -/
theorem Rp.int_inv {v : V} {i : Int} (h : Rp K F v (.int i)) : v = .int i := by cases h; rfl
theorem Rp.bool_inv {v : V} {b : Bool} (h : Rp K F v (.bool b)) : v = .bl b := by cases h; rfl
theorem Rp.str_inv {v : V} {x : Str} (h : Rp K F v (.str x)) : v = .str x := by cases h; rfl
theorem Rp.non_inv {v : V} (h : Rp K F v .none) : v = .non := by cases h; rfl
theorem RpA.int_inv : ∀ {ns : List Int} {vs : List V}, RpA K F vs (ns.map PyData.int) → vs = ns.map V.int
  | [], _, .nil => rfl
  | n :: ns, _, .cons r t => by rw [r.int_inv, RpA.int_inv t]; rfl
theorem RpA.bool_inv : ∀ {ns : List Bool} {vs : List V}, RpA K F vs (ns.map PyData.bool) → vs = ns.map V.bl
  | [], _, .nil => rfl
  | n :: ns, _, .cons r t => by rw [r.bool_inv, RpA.bool_inv t]; rfl
theorem RpA.str_inv : ∀ {ns : List Str} {vs : List V}, RpA K F vs (ns.map PyData.str) → vs = ns.map V.str
  | [], _, .nil => rfl
  | n :: ns, _, .cons r t => by rw [r.str_inv, RpA.str_inv t]; rfl
end

/-! ### the ghost -/
/-- the two numbers in the pot -/
abbrev Pt := Int × Int
/-- what stands at sys.modules: read, never changed, told by nothing -/
def SysAt (o : HO) : Prop := ∃ ob, o = .frz ob (.ext fun _ => True)
/-- F is settled, the pot stands at pa -/
structure Wd (pa : Option Addr) (F H : Hp) (π : Pt) : Prop where
  same : Same F H
  sys : ∃ o, H sysModules = some o ∧ SysAt o
  pot : ∀ a, pa = some a → F a = none ∧ H a = some (.lst [.int π.1, .int π.2])

/-- from (F, H) to (F', H') nothing that stood has changed but the pot; what is newly settled is new -/
structure Post (pa : Option Addr) (F H F' H' : Hp) (π' : Pt) : Prop where
  ff : Same F F'
  wd : Wd pa F' H' π'
  keep : ∀ b o, H b = some o → pa ≠ some b → H' b = some o
  new : ∀ b o, F' b = some o → F b = some o ∨ H b = none

theorem Post.refl {pa : Option Addr} {F H : Hp} {π : Pt} (w : Wd pa F H π) : Post pa F H F H π :=
  ⟨Same.refl F, w, fun _ _ h _ => h, fun _ _ h => .inl h⟩
theorem Post.trans {pa : Option Addr} {F H F1 H1 F2 H2 : Hp} {π π1 π2 : Pt} (w : Wd pa F H π) (a : Post pa F H F1 H1 π1) (b : Post pa F1 H1 F2 H2 π2) : Post pa F H F2 H2 π2 where
  ff := a.ff.trans b.ff
  wd := b.wd
  keep := fun c o h n => b.keep c o (a.keep c o h n) n
  new := fun c o h => by
    rcases b.new c o h with h1 | h1
    · exact a.new c o h1
    · refine .inr ?_
      cases q : H c with
      | none => rfl
      | some u =>
        by_cases n : pa = some c
        · obtain ⟨_, e⟩ := a.wd.pot c n
          rw [h1] at e; cases e
        · rw [a.keep c u q n] at h1; cases h1
/-- an address that is new behind is new ahead -/
theorem Post.fresh {pa : Option Addr} {F H F1 H1 : Hp} {π1 : Pt} (a : Post pa F H F1 H1 π1) {c : Addr} (h : H1 c = none) : H c = none := by
  cases q : H c with
  | none => rfl
  | some u =>
    by_cases n : pa = some c
    · obtain ⟨_, e⟩ := a.wd.pot c n
      rw [h] at e; cases e
    · rw [a.keep c u q n] at h; cases h

theorem Wd.free {pa : Option Addr} {F H : Hp} {π : Pt} (w : Wd pa F H π) {a : Addr} (h : H a = none) : F a = none := w.same.free h
theorem Wd.pa_ne {pa : Option Addr} {F H : Hp} {π : Pt} (w : Wd pa F H π) {a : Addr} (h : H a = none) : pa ≠ some a := fun e => by
  obtain ⟨_, q⟩ := w.pot a e
  rw [h] at q; cases q
theorem Wd.sys_ne {pa : Option Addr} {F H : Hp} {π : Pt} (w : Wd pa F H π) {a : Addr} {o : HO} (h : H a = some o) (n : ¬ SysAt o) : a ≠ sysModules := fun e => by
  obtain ⟨u, q, r⟩ := w.sys
  rw [← e, h] at q
  cases q
  exact n r
theorem Wd.pa_sys {pa : Option Addr} {F H : Hp} {π : Pt} (w : Wd pa F H π) : pa ≠ some sysModules := fun e => by
  obtain ⟨_, q⟩ := w.pot _ e
  exact w.sys_ne q (fun ⟨_, z⟩ => by cases z) rfl

theorem same_new {H : Hp} {p : Addr} {o : HO} (h : H p = none) : Same H (upd H p o) := fun b x e => by
  rw [upd_ne (ne_of_none e h)]
  exact e
theorem same_upd2 {F H : Hp} {p : Addr} {o : HO} (s : Same F H) (h : F p = none) : Same F (upd H p o) := fun b x e => by
  rw [upd_ne (ne_of_none e h)]
  exact s b x e
theorem same_both {F H : Hp} {p : Addr} {o : HO} (s : Same F H) : Same (upd F p o) (upd H p o) := fun b x e => by
  by_cases hb : b = p
  · subst hb; rw [upd_same] at e ⊢; exact e
  · rw [upd_ne hb] at e ⊢; exact s b x e
/-- a new object, settled at once -/
theorem Wd.add {pa : Option Addr} {F H : Hp} {π : Pt} (w : Wd pa F H π) {p : Addr} {o : HO} (h : H p = none) : Post pa F H (upd F p o) (upd H p o) π where
  ff := same_new (w.free h)
  wd := ⟨same_both w.same, by
      obtain ⟨u, q, r⟩ := w.sys
      exact ⟨u, by rw [upd_ne (ne_of_none q h)]; exact q, r⟩, fun a e => by
      obtain ⟨q1, q2⟩ := w.pot a e
      have ne : a ≠ p := ne_of_none q2 h
      exact ⟨by rw [upd_ne ne]; exact q1, by rw [upd_ne ne]; exact q2⟩⟩
  keep := fun b x e _ => by rw [upd_ne (ne_of_none e h)]; exact e
  new := fun b x e => by
    by_cases hb : b = p
    · subst hb; exact .inr h
    · rw [upd_ne hb] at e; exact .inl e
/-- a new object, not yet settled -/
theorem Wd.addM {pa : Option Addr} {F H : Hp} {π : Pt} (w : Wd pa F H π) {p : Addr} {o : HO} (h : H p = none) : Post pa F H F (upd H p o) π where
  ff := Same.refl F
  wd := ⟨w.same.trans (same_new h), by
      obtain ⟨u, q, r⟩ := w.sys
      exact ⟨u, by rw [upd_ne (ne_of_none q h)]; exact q, r⟩, fun a e => by
      obtain ⟨q1, q2⟩ := w.pot a e
      exact ⟨q1, by rw [upd_ne (ne_of_none q2 h)]; exact q2⟩⟩
  keep := fun b x e _ => by rw [upd_ne (ne_of_none e h)]; exact e
  new := fun b x e => .inl e
/-- what stands unsettled is settled -/
theorem Wd.settle {pa : Option Addr} {F H : Hp} {π : Pt} (w : Wd pa F H π) {p : Addr} {o : HO} (hF : F p = none) (hp : pa ≠ some p) (h : H p = some o) : Same F (upd F p o) ∧ Wd pa (upd F p o) H π := by
  refine ⟨same_new hF, ⟨fun b x e => ?_, w.sys, fun a e => ?_⟩⟩
  · by_cases hb : b = p
    · subst hb; rw [upd_same] at e; cases e; exact h
    · rw [upd_ne hb] at e; exact w.same b x e
  · obtain ⟨q1, q2⟩ := w.pot a e
    have ne : a ≠ p := fun z => hp (by rw [← z]; exact e)
    exact ⟨by rw [upd_ne ne]; exact q1, q2⟩

def RpX (K : PySem.W.Frag) (pa : Option Addr) (F H : Hp) (v : V) (d : PyData) : Prop :=
  Rp K F v d ∨ ∃ a vs ds, v = .ref a ∧ d = .list ds ∧ F a = none ∧ pa ≠ some a ∧ H a = some (.lst vs) ∧ RpA K F vs ds
section
variable {K : PySem.W.Frag} {pa : Option Addr} {F H F' H' : Hp} {π π' : Pt} {v : V} {d : PyData}
theorem Rp.x (h : Rp K F v d) : RpX K pa F H v d := .inl h
theorem RpX.post (w : Wd pa F H π) (p : Post pa F H F' H' π') (h : RpX K pa F H v d) : RpX K pa F' H' v d := by
  rcases h with h | ⟨a, vs, ds, rfl, rfl, h1, h2, h3, h4⟩
  · exact .inl (h.mono p.ff)
  · refine .inr ⟨a, vs, ds, rfl, rfl, ?_, h2, p.keep a _ h3 h2, h4.mono p.ff⟩
    cases q : F' a with
    | none => rfl
    | some o =>
      rcases p.new a o q with z | z
      · rw [h1] at z; cases z
      · rw [h3] at z; cases z
theorem RpX.int_inv {i : Int} (h : RpX K pa F H v (.int i)) : v = .int i := by
  rcases h with h | ⟨a, vs, ds, _, e, _⟩
  · exact h.int_inv
  · cases e
theorem RpX.bool_inv {b : Bool} (h : RpX K pa F H v (.bool b)) : v = .bl b := by
  rcases h with h | ⟨a, vs, ds, _, e, _⟩
  · exact h.bool_inv
  · cases e
theorem RpX.str_inv {x : Str} (h : RpX K pa F H v (.str x)) : v = .str x := by
  rcases h with h | ⟨a, vs, ds, _, e, _⟩
  · exact h.str_inv
  · cases e
theorem RpX.non_inv (h : RpX K pa F H v .none) : v = .non := by
  rcases h with h | ⟨a, vs, ds, _, e, _⟩
  · exact h.non_inv
  · cases e
theorem RpX.tup_inv {ds : List PyData} (w : Wd pa F H π) (h : RpX K pa F H v (.tuple ds)) : ∃ a vs, v = .ref a ∧ SqT K H a vs ∧ RpA K F vs ds ∧ SqT K F a vs := by
  rcases h with h | ⟨a, vs, ds, _, e, _⟩
  · cases h with
    | tup h r => exact ⟨_, _, rfl, seqT_mono w.same h, r, h⟩
  · cases e
theorem RpX.lst_inv {ds : List PyData} (w : Wd pa F H π) (h : RpX K pa F H v (.list ds)) : ∃ a vs, v = .ref a ∧ SqL K H a vs ∧ RpA K F vs ds := by
  rcases h with h | ⟨a, vs, es, rfl, e, _, _, h3, h4⟩
  · cases h with
    | lst h r => exact ⟨_, _, rfl, w.same.seq h, r⟩
  · cases e
    exact ⟨_, _, rfl, .inl (.inl h3), h4⟩
theorem Rp.lst_inv {ds : List PyData} (h : Rp K F v (.list ds)) : ∃ a vs, v = .ref a ∧ SqL K F a vs ∧ RpA K F vs ds := by
  cases h with
  | lst h r => exact ⟨_, _, rfl, h, r⟩
theorem Rp.tup_inv {ds : List PyData} (h : Rp K F v (.tuple ds)) : ∃ a vs, v = .ref a ∧ SqT K F a vs ∧ RpA K F vs ds := by
  cases h with
  | tup h r => exact ⟨_, _, rfl, h, r⟩
end
end DL

set_option maxHeartbeats 1000000
namespace DL
open PySem PySem.Spec PyProof.Rows L2
set_option autoImplicit false

/-- a name's content: nothing known, settled data, an own list, the pot -/
inductive Sl where
  | e
  | d (x : PyData)
  | m (xs : List PyData)
  | p
abbrev Ev := List Sl
def SlOk (K : PySem.W.Frag) (pa : Option Addr) (H0 F H : Hp) (o : Option V) : Sl → Prop
  | .e => True
  | .d x => ∃ v, o = some v ∧ Rp K F v x
  | .m xs => ∃ a vs, o = some (.ref a) ∧ H0 a = none ∧ F a = none ∧ pa ≠ some a ∧ H a = some (.lst vs) ∧ RpA K F vs xs
  | .p => ∃ a, o = some (.ref a) ∧ pa = some a
structure StOk (K : PySem.W.Frag) (pa : Option Addr) (H0 F H : Hp) (σ : St) (ρ : Ev) : Prop where
  len : σ.length = ρ.length
  at_ : ∀ i s, ρ[i]? = some s → SlOk K pa H0 F H (σ.getD i none) s
  apart : ∀ i j xs ys, i ≠ j → ρ[i]? = some (.m xs) → ρ[j]? = some (.m ys) → σ.getD i none ≠ σ.getD j none
section
variable {K : PySem.W.Frag} {pa : Option Addr} {H0 F H F' H' : Hp} {π π' : Pt} {σ : St} {ρ : Ev}
theorem SlOk.post {o : Option V} {s : Sl} (w : Wd pa F H π) (p : Post pa F H F' H' π') (h : SlOk K pa H0 F H o s) : SlOk K pa H0 F' H' o s := by
  cases s with
  | e => trivial
  | d x =>
    obtain ⟨v, e, r⟩ := h
    exact ⟨v, e, r.mono p.ff⟩
  | m xs =>
    obtain ⟨a, vs, e, h0, h1, h2, h3, h4⟩ := h
    refine ⟨a, vs, e, h0, ?_, h2, p.keep a _ h3 h2, h4.mono p.ff⟩
    cases q : F' a with
    | none => rfl
    | some o =>
      rcases p.new a o q with z | z
      · rw [h1] at z; cases z
      · rw [h3] at z; cases z
  | p => exact h
theorem StOk.post (w : Wd pa F H π) (p : Post pa F H F' H' π') (h : StOk K pa H0 F H σ ρ) : StOk K pa H0 F' H' σ ρ :=
  ⟨h.len, fun i s e => (h.at_ i s e).post w p, h.apart⟩
theorem getD_of {σ : St} {i : Nat} {v : V} (h : σ.getD i none = some v) : σ[i]? = some (some v) := by
  rw [List.getD_eq_getElem?_getD] at h
  cases q : σ[i]? with
  | none => rw [q] at h; cases h
  | some o =>
    rw [q] at h
    have h : o = some v := h
    rw [h]
theorem StOk.data {i : Nat} {x : PyData} (h : StOk K pa H0 F H σ ρ) (e : ρ[i]? = some (.d x)) : ∃ v, σ[i]? = some (some v) ∧ Rp K F v x := by
  obtain ⟨v, e1, r⟩ := h.at_ i _ e
  exact ⟨v, getD_of e1, r⟩
theorem StOk.own {i : Nat} {xs : List PyData} (h : StOk K pa H0 F H σ ρ) (e : ρ[i]? = some (.m xs)) : ∃ a vs, σ[i]? = some (some (.ref a)) ∧ H0 a = none ∧ F a = none ∧ pa ≠ some a ∧ H a = some (.lst vs) ∧ RpA K F vs xs := by
  obtain ⟨a, vs, e1, r⟩ := h.at_ i _ e
  exact ⟨a, vs, getD_of e1, r⟩
theorem StOk.pot {i : Nat} (h : StOk K pa H0 F H σ ρ) (e : ρ[i]? = some .p) : ∃ a, σ[i]? = some (some (.ref a)) ∧ pa = some a := by
  obtain ⟨a, e1, r⟩ := h.at_ i _ e
  exact ⟨a, getD_of e1, r⟩
/-- a name is given settled data -/
theorem StOk.setD {i : Nat} {v : V} {x : PyData} (h : StOk K pa H0 F H σ ρ) (r : Rp K F v x) : StOk K pa H0 F H (σ.set i (some v)) (ρ.set i (.d x)) := by
  refine ⟨by rw [List.length_set, List.length_set]; exact h.len, fun j s e => ?_, fun j k xs ys ne e1 e2 => ?_⟩
  · by_cases hj : i = j
    · subst hj
      by_cases hl : i < ρ.length
      · rw [List.getElem?_set_self hl] at e
        cases e
        refine ⟨v, ?_, r⟩
        rw [List.getD_eq_getElem?_getD, List.getElem?_set_self (by rw [h.len]; exact hl)]
        rfl
      · rw [List.getElem?_eq_none (by rw [List.length_set]; omega)] at e
        cases e
    · rw [List.getElem?_set_ne hj] at e
      rw [List.getD_eq_getElem?_getD, List.getElem?_set_ne hj, ← List.getD_eq_getElem?_getD]
      exact h.at_ j s e
  · have hj : i ≠ j := fun z => by
      subst z
      by_cases hl : i < ρ.length
      · rw [List.getElem?_set_self hl] at e1; cases e1
      · rw [List.getElem?_eq_none (by rw [List.length_set]; omega)] at e1; cases e1
    have hk : i ≠ k := fun z => by
      subst z
      by_cases hl : i < ρ.length
      · rw [List.getElem?_set_self hl] at e2; cases e2
      · rw [List.getElem?_eq_none (by rw [List.length_set]; omega)] at e2; cases e2
    rw [List.getElem?_set_ne hj] at e1
    rw [List.getElem?_set_ne hk] at e2
    have q := h.apart j k xs ys ne e1 e2
    rw [List.getD_eq_getElem?_getD, List.getD_eq_getElem?_getD, List.getElem?_set_ne hj, List.getElem?_set_ne hk, ← List.getD_eq_getElem?_getD, ← List.getD_eq_getElem?_getD]
    exact q
/-- a name is given an own list that stands nowhere else -/
theorem StOk.setM {i : Nat} {a : Addr} {vs : List V} {xs : List PyData} (h : StOk K pa H0 F H σ ρ) (h0 : H0 a = none) (h1 : F a = none) (h2 : pa ≠ some a) (h3 : H a = some (.lst vs)) (h4 : RpA K F vs xs)
    (no : ∀ j ys, j ≠ i → ρ[j]? = some (.m ys) → σ.getD j none ≠ some (.ref a)) : StOk K pa H0 F H (σ.set i (some (.ref a))) (ρ.set i (.m xs)) := by
  refine ⟨by rw [List.length_set, List.length_set]; exact h.len, fun j s e => ?_, fun j k us ys ne e1 e2 => ?_⟩
  · by_cases hj : i = j
    · subst hj
      by_cases hl : i < ρ.length
      · rw [List.getElem?_set_self hl] at e
        cases e
        refine ⟨a, vs, ?_, h0, h1, h2, h3, h4⟩
        rw [List.getD_eq_getElem?_getD, List.getElem?_set_self (by rw [h.len]; exact hl)]
        rfl
      · rw [List.getElem?_eq_none (by rw [List.length_set]; omega)] at e
        cases e
    · rw [List.getElem?_set_ne hj] at e
      rw [List.getD_eq_getElem?_getD, List.getElem?_set_ne hj, ← List.getD_eq_getElem?_getD]
      exact h.at_ j s e
  · have self : ∀ {us : List PyData}, (ρ.set i (.m xs))[i]? = some (.m us) → i < σ.length := fun {us} e => by
      rw [h.len]
      exact Nat.lt_of_not_le fun hl => by rw [List.getElem?_eq_none (by rw [List.length_set]; exact hl)] at e; cases e
    by_cases hj : i = j
    · subst hj
      have hk : i ≠ k := ne
      have hi := self e1
      rw [List.getElem?_set_ne hk] at e2
      rw [List.getD_eq_getElem?_getD, List.getD_eq_getElem?_getD, List.getElem?_set_self hi, List.getElem?_set_ne hk, ← List.getD_eq_getElem?_getD]
      exact fun z => no k ys (Ne.symm hk) e2 z.symm
    · by_cases hk : i = k
      · subst hk
        have hi := self e2
        rw [List.getElem?_set_ne hj] at e1
        rw [List.getD_eq_getElem?_getD, List.getD_eq_getElem?_getD, List.getElem?_set_self hi, List.getElem?_set_ne hj, ← List.getD_eq_getElem?_getD]
        exact no j us (Ne.symm hj) e1
      · rw [List.getElem?_set_ne hj] at e1
        rw [List.getElem?_set_ne hk] at e2
        have q := h.apart j k us ys ne e1 e2
        rw [List.getD_eq_getElem?_getD, List.getD_eq_getElem?_getD, List.getElem?_set_ne hj, List.getElem?_set_ne hk, ← List.getD_eq_getElem?_getD, ← List.getD_eq_getElem?_getD]
        exact q
/-- an own list's content has changed, all else stands -/
theorem StOk.writeM {i : Nat} {a : Addr} {vs' : List V} {xs xs' : List PyData} (h : StOk K pa H0 F H σ ρ) (e : ρ[i]? = some (.m xs)) (ea : σ[i]? = some (some (.ref a))) (r : RpA K F vs' xs') :
    StOk K pa H0 F (upd H a (.lst vs')) σ (ρ.set i (.m xs')) := by
  have hi : i < ρ.length := (List.getElem?_eq_some_iff.mp e).1
  obtain ⟨b, ws, e1, q0, q1, q2, q3, q4⟩ := h.own e
  rw [ea] at e1
  cases e1
  have gi : σ.getD i none = some (.ref a) := by rw [List.getD_eq_getElem?_getD, ea]; rfl
  refine ⟨by rw [List.length_set]; exact h.len, fun j s ej => ?_, fun j k us ys ne e1 e2 => ?_⟩
  · by_cases hj : i = j
    · subst hj
      rw [List.getElem?_set_self hi] at ej
      cases ej
      exact ⟨a, vs', gi, q0, q1, q2, upd_same, r⟩
    · rw [List.getElem?_set_ne hj] at ej
      have q := h.at_ j s ej
      cases s with
      | e => trivial
      | d x => exact q
      | p => exact q
      | m ys =>
        obtain ⟨b, us, z1, z0, z2, z3, z4, z5⟩ := q
        have ne : b ≠ a := fun z => by
          subst z
          exact h.apart i j _ _ hj e ej (gi.trans z1.symm)
        exact ⟨b, us, z1, z0, z2, z3, by rw [upd_ne ne]; exact z4, z5⟩
  · have old : ∀ {l : Nat} {us : List PyData}, (ρ.set i (.m xs'))[l]? = some (.m us) → ∃ us', ρ[l]? = some (.m us') := fun {l us} z => by
      by_cases hl : i = l
      · subst hl; exact ⟨_, e⟩
      · rw [List.getElem?_set_ne hl] at z; exact ⟨_, z⟩
    obtain ⟨u1, z1⟩ := old e1
    obtain ⟨u2, z2⟩ := old e2
    exact h.apart j k u1 u2 ne z1 z2
/-- an own list is settled -/
theorem StOk.settleM {i : Nat} {a : Addr} {vs : List V} {xs : List PyData} (h : StOk K pa H0 F H σ ρ) (e : ρ[i]? = some (.m xs)) (ea : σ[i]? = some (some (.ref a))) (h3 : H a = some (.lst vs)) (r : RpA K F vs xs) (hF : F a = none) :
    StOk K pa H0 (upd F a (.lst vs)) H σ (ρ.set i (.d (.list xs))) := by
  have hi : i < ρ.length := (List.getElem?_eq_some_iff.mp e).1
  have gi : σ.getD i none = some (.ref a) := by rw [List.getD_eq_getElem?_getD, ea]; rfl
  have sf : Same F (upd F a (.lst vs)) := same_new hF
  refine ⟨by rw [List.length_set]; exact h.len, fun j s ej => ?_, fun j k us ys ne e1 e2 => ?_⟩
  · by_cases hj : i = j
    · subst hj
      rw [List.getElem?_set_self hi] at ej
      cases ej
      exact ⟨.ref a, gi, .lst (.inl (.inl upd_same)) (r.mono sf)⟩
    · rw [List.getElem?_set_ne hj] at ej
      have q := h.at_ j s ej
      cases s with
      | e => trivial
      | d x =>
        obtain ⟨v, z1, z2⟩ := q
        exact ⟨v, z1, z2.mono sf⟩
      | p => exact q
      | m ys =>
        obtain ⟨b, us, z1, z0, z2, z3, z4, z5⟩ := q
        have ne : b ≠ a := fun z => by
          subst z
          exact h.apart i j _ _ hj e ej (gi.trans z1.symm)
        exact ⟨b, us, z1, z0, by rw [upd_ne ne]; exact z2, z3, z4, z5.mono sf⟩
  · have old : ∀ {l : Nat} {us : List PyData}, (ρ.set i (.d (.list xs)))[l]? = some (.m us) → ρ[l]? = some (.m us) := fun {l us} z => by
      by_cases hl : i = l
      · subst hl; rw [List.getElem?_set_self hi] at z; cases z
      · rw [List.getElem?_set_ne hl] at z; exact z
    exact h.apart j k us ys ne (old e1) (old e2)
end

abbrev MX := Ev → Pt → Option (PyData × Pt)
abbrev ML := Ev → Pt → Option (List PyData × Pt)
abbrev MT := Ev → Pt → Option (Bool × Pt)
section
variable (K : PySem.W.Frag)
/-- te gives a readable value of the datum that f tells -/
def EvX (te : TE) (f : MX) : Prop := ∀ ρ π d π', f ρ π = some (d, π') → ∀ pa H0 F H σ Q, Wd pa F H π → StOk K pa H0 F H σ ρ → (∀ v F' H', Post pa F H F' H' π' → RpX K pa F' H' v d → Q v H') → te σ H Q
/-- .. a settled one -/
def EvE (te : TE) (f : MX) : Prop := ∀ ρ π d π', f ρ π = some (d, π') → ∀ pa H0 F H σ Q, Wd pa F H π → StOk K pa H0 F H σ ρ → (∀ v F' H', Post pa F H F' H' π' → Rp K F' v d → Q v H') → te σ H Q
/-- .. a new list -/
def EvN (te : TE) (f : ML) : Prop := ∀ ρ π ds π', f ρ π = some (ds, π') → ∀ pa H0 F H σ Q, Wd pa F H π → StOk K pa H0 F H σ ρ →
  (∀ a vs F' H', Post pa F H F' H' π' → H a = none → F' a = none → pa ≠ some a → H' a = some (.lst vs) → RpA K F' vs ds → Q (.ref a) H') → te σ H Q
def EvT (tt : TT) (f : MT) : Prop := ∀ ρ π b π', f ρ π = some (b, π') → ∀ pa H0 F H σ Q, Wd pa F H π → StOk K pa H0 F H σ ρ → (∀ F' H', Post pa F H F' H' π' → Q b H') → tt σ H Q
/-- arguments: settled ones -/
def EvA (ta : TA) (f : ML) : Prop := ∀ ρ π ds π', f ρ π = some (ds, π') → ∀ pa H0 F H σ Q, Wd pa F H π → StOk K pa H0 F H σ ρ → (∀ vs F' H', Post pa F H F' H' π' → RpA K F' vs ds → Q vs H') → ta σ H Q
end
section
variable {K : PySem.W.Frag} {te ta tb : TE} {f g h : MX} {l : ML} {tt tu : TT} {b c : MT}
theorem EvE.x (e : EvE K te f) : EvX K te f := fun ρ π d π' hf pa H0 F H σ Q w s q => e ρ π d π' hf pa H0 F H σ Q w s fun v F' H' p r => q v F' H' p (.inl r)
def fL (l : ML) : MX := fun ρ π => (l ρ π).map fun (ds, π') => (.list ds, π')
theorem fL_some {l : ML} {ρ : Ev} {π : Pt} {d : PyData} {π' : Pt} (h : fL l ρ π = some (d, π')) : ∃ ds, d = .list ds ∧ l ρ π = some (ds, π') := by
  unfold fL at h
  cases q : l ρ π with
  | none => rw [q] at h; cases h
  | some r =>
    obtain ⟨ds, π1⟩ := r
    rw [q] at h
    cases h
    exact ⟨ds, rfl, rfl⟩
theorem EvN.e (e : EvN K te l) : EvE K te (fL l) := fun ρ π d π' hf pa H0 F H σ Q w s q => by
  obtain ⟨ds, rfl, hl⟩ := fL_some hf
  refine e ρ π ds π' hl pa H0 F H σ Q w s fun a vs F' H' p ha hF hp hH r => ?_
  obtain ⟨s1, w1⟩ := p.wd.settle hF hp hH
  refine q (.ref a) (upd F' a (.lst vs)) H' ⟨p.ff.trans s1, w1, p.keep, fun c o hc => ?_⟩ (.lst (.inl (.inl upd_same)) (r.mono s1))
  by_cases hca : c = a
  · subst hca; exact .inr ha
  · rw [upd_ne hca] at hc; exact p.new c o hc
theorem EvN.x (e : EvN K te l) : EvX K te (fL l) := e.e.x

def fV (i : Nat) : MX := fun ρ π => match ρ[i]? with
  | some (.d x) => some (x, π)
  | _ => none
def fVx (i : Nat) : MX := fun ρ π => match ρ[i]? with
  | some (.d x) => some (x, π)
  | some (.m xs) => some (.list xs, π)
  | _ => none
def fC (d : PyData) : MX := fun _ π => some (d, π)
theorem ev_var (i : Nat) : EvE K (tVar i) (fV i) := fun ρ π d π' hf pa H0 F H σ Q w s q => by
  unfold fV at hf
  split at hf
  · rename_i x e
    cases hf
    obtain ⟨v, e1, r⟩ := s.data e
    exact ⟨v, e1, q v F H (.refl w) r⟩
  · cases hf
theorem ev_varx (i : Nat) : EvX K (tVar i) (fVx i) := fun ρ π d π' hf pa H0 F H σ Q w s q => by
  unfold fVx at hf
  split at hf
  · rename_i x e
    cases hf
    obtain ⟨v, e1, r⟩ := s.data e
    exact ⟨v, e1, q v F H (.refl w) (.inl r)⟩
  · rename_i xs e
    cases hf
    obtain ⟨a, vs, e1, h0, h1, h2, h3, h4⟩ := s.own e
    exact ⟨.ref a, e1, q _ F H (.refl w) (.inr ⟨a, vs, xs, rfl, rfl, h1, h2, h3, h4⟩)⟩
  · cases hf
theorem ev_int (i : Int) : EvE K (tC (.int i)) (fC (.int i)) := fun ρ π d π' hf pa H0 F H σ Q w s q => by
  cases hf; exact q _ F H (.refl w) (.int i)
theorem ev_bl (i : Bool) : EvE K (tC (.bl i)) (fC (.bool i)) := fun ρ π d π' hf pa H0 F H σ Q w s q => by
  cases hf; exact q _ F H (.refl w) (.bl i)
theorem ev_str (i : Str) : EvE K (tC (.str i)) (fC (.str i)) := fun ρ π d π' hf pa H0 F H σ Q w s q => by
  cases hf; exact q _ F H (.refl w) (.str i)
theorem ev_non : EvE K (tC .non) (fC .none) := fun ρ π d π' hf pa H0 F H σ Q w s q => by
  cases hf; exact q _ F H (.refl w) .non

/-- r, asked of readable values, gives the settled datum that g tells -/
def Sim2 (K : PySem.W.Frag) (r : R2) (g : PyData → PyData → Option PyData) : Prop :=
  ∀ pa F H π x y dx dy d Q, Wd pa F H π → RpX K pa F H x dx → RpX K pa F H y dy → g dx dy = some d → (∀ v F' H', Post pa F H F' H' π → Rp K F' v d → Q v H') → r x y H Q
def fB (g : PyData → PyData → Option PyData) (f h : MX) : MX := fun ρ π => (f ρ π).bind fun (x, π1) => (h ρ π1).bind fun (y, π2) => (g x y).map fun d => (d, π2)
theorem fB_some {g : PyData → PyData → Option PyData} {ρ : Ev} {π π' : Pt} {d : PyData} (e : fB g f h ρ π = some (d, π')) : ∃ x π1 y, f ρ π = some (x, π1) ∧ h ρ π1 = some (y, π') ∧ g x y = some d := by
  unfold fB at e
  cases q : f ρ π with
  | none => rw [q] at e; cases e
  | some r =>
    obtain ⟨x, π1⟩ := r
    rw [q] at e
    cases q2 : h ρ π1 with
    | none => simp only [Option.bind_some, q2] at e; cases e
    | some r2 =>
      obtain ⟨y, π2⟩ := r2
      simp only [Option.bind_some, q2] at e
      cases q3 : g x y with
      | none => rw [q3] at e; cases e
      | some d' =>
        rw [q3] at e
        cases e
        exact ⟨x, π1, y, rfl, q2, q3⟩
theorem ev_op {r : R2} {g : PyData → PyData → Option PyData} (sm : Sim2 K r g) (ea : EvX K ta f) (eb : EvX K tb h) : EvE K (tOp r ta tb) (fB g f h) := fun ρ π d π' hf pa H0 F H σ Q w s q => by
  obtain ⟨x, π1, y, e1, e2, e3⟩ := fB_some hf
  refine ea ρ π x π1 e1 pa H0 F H σ _ w s fun v F1 H1 p1 r1 => ?_
  refine eb ρ π1 y π' e2 pa H0 F1 H1 σ _ p1.wd (s.post w p1) fun u F2 H2 p2 r2 => ?_
  exact sm pa F2 H2 π' v u x y d Q p2.wd (r1.post p1.wd p2) r2 e3 fun z F3 H3 p3 r3 => q z F3 H3 ((p1.trans w p2).trans w p3) r3
/-- .. gives a new list -/
def Sim2N (K : PySem.W.Frag) (r : R2) (g : PyData → PyData → Option (List PyData)) : Prop :=
  ∀ pa F H π x y dx dy ds Q, Wd pa F H π → RpX K pa F H x dx → RpX K pa F H y dy → g dx dy = some ds →
    (∀ a vs F' H', Post pa F H F' H' π → H a = none → F' a = none → pa ≠ some a → H' a = some (.lst vs) → RpA K F' vs ds → Q (.ref a) H') → r x y H Q
def fBN (g : PyData → PyData → Option (List PyData)) (f h : MX) : ML := fun ρ π => (f ρ π).bind fun (x, π1) => (h ρ π1).bind fun (y, π2) => (g x y).map fun d => (d, π2)
theorem fBN_some {g : PyData → PyData → Option (List PyData)} {ρ : Ev} {π π' : Pt} {d : List PyData} (e : fBN g f h ρ π = some (d, π')) : ∃ x π1 y, f ρ π = some (x, π1) ∧ h ρ π1 = some (y, π') ∧ g x y = some d := by
  unfold fBN at e
  cases q : f ρ π with
  | none => rw [q] at e; cases e
  | some r =>
    obtain ⟨x, π1⟩ := r
    rw [q] at e
    cases q2 : h ρ π1 with
    | none => simp only [Option.bind_some, q2] at e; cases e
    | some r2 =>
      obtain ⟨y, π2⟩ := r2
      simp only [Option.bind_some, q2] at e
      cases q3 : g x y with
      | none => rw [q3] at e; cases e
      | some d' =>
        rw [q3] at e
        cases e
        exact ⟨x, π1, y, rfl, q2, q3⟩
theorem ev_opN {r : R2} {g : PyData → PyData → Option (List PyData)} (sm : Sim2N K r g) (ea : EvX K ta f) (eb : EvX K tb h) : EvN K (tOp r ta tb) (fBN g f h) := fun ρ π d π' hf pa H0 F H σ Q w s q => by
  obtain ⟨x, π1, y, e1, e2, e3⟩ := fBN_some hf
  refine ea ρ π x π1 e1 pa H0 F H σ _ w s fun v F1 H1 p1 r1 => ?_
  refine eb ρ π1 y π' e2 pa H0 F1 H1 σ _ p1.wd (s.post w p1) fun u F2 H2 p2 r2 => ?_
  have p12 := p1.trans w p2
  exact sm pa F2 H2 π' v u x y d Q p2.wd (r1.post p1.wd p2) r2 e3 fun a vs F3 H3 p3 ha hF hp hH r3 => q a vs F3 H3 (p12.trans w p3) (p12.fresh ha) hF hp hH r3
/-- one operand -/
def Sim1 (K : PySem.W.Frag) (r : V → Hp → VK → Prop) (g : PyData → Option PyData) : Prop :=
  ∀ pa F H π x dx d Q, Wd pa F H π → RpX K pa F H x dx → g dx = some d → (∀ v F' H', Post pa F H F' H' π → Rp K F' v d → Q v H') → r x H Q
def fU (g : PyData → Option PyData) (f : MX) : MX := fun ρ π => (f ρ π).bind fun (x, π1) => (g x).map fun d => (d, π1)
theorem fU_some {g : PyData → Option PyData} {ρ : Ev} {π π' : Pt} {d : PyData} (e : fU g f ρ π = some (d, π')) : ∃ x, f ρ π = some (x, π') ∧ g x = some d := by
  unfold fU at e
  cases q : f ρ π with
  | none => rw [q] at e; cases e
  | some r =>
    obtain ⟨x, π1⟩ := r
    rw [q] at e
    simp only [Option.bind_some] at e
    cases q3 : g x with
    | none => rw [q3] at e; cases e
    | some d' =>
      rw [q3] at e
      cases e
      exact ⟨x, rfl, q3⟩
theorem ev_un {r : V → Hp → VK → Prop} {g : PyData → Option PyData} (sm : Sim1 K r g) (ea : EvX K ta f) : EvE K (tUn r ta) (fU g f) := fun ρ π d π' hf pa H0 F H σ Q w s q => by
  obtain ⟨x, e1, e3⟩ := fU_some hf
  refine ea ρ π x π' e1 pa H0 F H σ _ w s fun v F1 H1 p1 r1 => ?_
  exact sm pa F1 H1 π' v x d Q p1.wd r1 e3 fun z F3 H3 p3 r3 => q z F3 H3 (p1.trans w p3) r3
/-- a call of a built-in with one argument -/
def SimC1 (K : PySem.W.Frag) (r : List V → Hp → VK → Prop) (g : PyData → Option PyData) : Prop :=
  ∀ pa F H π x dx d Q, Wd pa F H π → RpX K pa F H x dx → g dx = some d → (∀ v F' H', Post pa F H F' H' π → Rp K F' v d → Q v H') → r [x] H Q
theorem ev_c1 {r : List V → Hp → VK → Prop} {g : PyData → Option PyData} (sm : SimC1 K r g) (ea : EvX K ta f) : EvE K (tCB r (tCons ta tNil)) (fU g f) := fun ρ π d π' hf pa H0 F H σ Q w s q => by
  obtain ⟨x, e1, e3⟩ := fU_some hf
  refine ea ρ π x π' e1 pa H0 F H σ _ w s fun v F1 H1 p1 r1 => ?_
  exact sm pa F1 H1 π' v x d Q p1.wd r1 e3 fun z F3 H3 p3 r3 => q z F3 H3 (p1.trans w p3) r3
def SimC1N (K : PySem.W.Frag) (r : List V → Hp → VK → Prop) (g : PyData → Option (List PyData)) : Prop :=
  ∀ pa F H π x dx ds Q, Wd pa F H π → RpX K pa F H x dx → g dx = some ds →
    (∀ a vs F' H', Post pa F H F' H' π → H a = none → F' a = none → pa ≠ some a → H' a = some (.lst vs) → RpA K F' vs ds → Q (.ref a) H') → r [x] H Q
def fUN (g : PyData → Option (List PyData)) (f : MX) : ML := fun ρ π => (f ρ π).bind fun (x, π1) => (g x).map fun d => (d, π1)
theorem fUN_some {g : PyData → Option (List PyData)} {ρ : Ev} {π π' : Pt} {d : List PyData} (e : fUN g f ρ π = some (d, π')) : ∃ x, f ρ π = some (x, π') ∧ g x = some d := by
  unfold fUN at e
  cases q : f ρ π with
  | none => rw [q] at e; cases e
  | some r =>
    obtain ⟨x, π1⟩ := r
    rw [q] at e
    simp only [Option.bind_some] at e
    cases q3 : g x with
    | none => rw [q3] at e; cases e
    | some d' =>
      rw [q3] at e
      cases e
      exact ⟨x, rfl, q3⟩
theorem ev_c1N {r : List V → Hp → VK → Prop} {g : PyData → Option (List PyData)} (sm : SimC1N K r g) (ea : EvX K ta f) : EvN K (tCB r (tCons ta tNil)) (fUN g f) := fun ρ π d π' hf pa H0 F H σ Q w s q => by
  obtain ⟨x, e1, e3⟩ := fUN_some hf
  refine ea ρ π x π' e1 pa H0 F H σ _ w s fun v F1 H1 p1 r1 => ?_
  exact sm pa F1 H1 π' v x d Q p1.wd r1 e3 fun a vs F3 H3 p3 ha hF hp hH r3 => q a vs F3 H3 (p1.trans w p3) (p1.fresh ha) hF hp hH r3
def SimC2 (K : PySem.W.Frag) (r : List V → Hp → VK → Prop) (g : PyData → PyData → Option PyData) : Prop :=
  ∀ pa F H π x y dx dy d Q, Wd pa F H π → RpX K pa F H x dx → RpX K pa F H y dy → g dx dy = some d → (∀ v F' H', Post pa F H F' H' π → Rp K F' v d → Q v H') → r [x, y] H Q
theorem ev_c2 {r : List V → Hp → VK → Prop} {g : PyData → PyData → Option PyData} (sm : SimC2 K r g) (ea : EvX K ta f) (eb : EvX K tb h) : EvE K (tCB r (tCons ta (tCons tb tNil))) (fB g f h) := fun ρ π d π' hf pa H0 F H σ Q w s q => by
  obtain ⟨x, π1, y, e1, e2, e3⟩ := fB_some hf
  refine ea ρ π x π1 e1 pa H0 F H σ _ w s fun v F1 H1 p1 r1 => ?_
  refine eb ρ π1 y π' e2 pa H0 F1 H1 σ _ p1.wd (s.post w p1) fun u F2 H2 p2 r2 => ?_
  exact sm pa F2 H2 π' v u x y d Q p2.wd (r1.post p1.wd p2) r2 e3 fun z F3 H3 p3 r3 => q z F3 H3 ((p1.trans w p2).trans w p3) r3

/-! #### tests -/
def asB : Option (PyData × Pt) → Option (Bool × Pt)
  | some (.bool b, π) => some (b, π)
  | _ => none
theorem asB_some {o : Option (PyData × Pt)} {b : Bool} {π : Pt} (h : asB o = some (b, π)) : o = some (.bool b, π) := by
  unfold asB at h
  split at h
  · cases h; rfl
  · cases h
def fTv (f : MX) : MT := fun ρ π => asB (f ρ π)
theorem evt_val (e : EvX K te f) : EvT K (tB te) (fTv f) := fun ρ π b π' hf pa H0 F H σ Q w s q =>
  e ρ π (.bool b) π' (asB_some hf) pa H0 F H σ _ w s fun v F' H' p r => ⟨b, r.bool_inv, q F' H' p⟩
theorem evt_test (e : EvX K te f) : EvT K (tTest te) (fTv f) := fun ρ π b π' hf pa H0 F H σ Q w s q =>
  e ρ π (.bool b) π' (asB_some hf) pa H0 F H σ _ w s fun v F' H' p r => ⟨b, r.bool_inv, q F' H' p⟩
def fNotT (b : MT) : MT := fun ρ π => (b ρ π).map fun (x, π1) => (!x, π1)
def fAndT (b c : MT) : MT := fun ρ π => (b ρ π).bind fun (x, π1) => if x = true then c ρ π1 else some (false, π1)
def fOrT (b c : MT) : MT := fun ρ π => (b ρ π).bind fun (x, π1) => if x = true then some (true, π1) else c ρ π1
theorem evt_not (e : EvT K tt b) : EvT K (tNot tt) (fNotT b) := fun ρ π x π' hf pa H0 F H σ Q w s q => by
  unfold fNotT at hf
  cases e1 : b ρ π with
  | none => rw [e1] at hf; cases hf
  | some r =>
    obtain ⟨y, π1⟩ := r
    rw [e1] at hf
    cases hf
    exact e ρ π y _ e1 pa H0 F H σ _ w s fun F' H' p => q F' H' p
theorem evt_and (e : EvT K tt b) (e2 : EvT K tu c) : EvT K (tAnd tt tu) (fAndT b c) := fun ρ π x π' hf pa H0 F H σ Q w s q => by
  unfold fAndT at hf
  cases e1 : b ρ π with
  | none => rw [e1] at hf; cases hf
  | some r =>
    obtain ⟨y, π1⟩ := r
    rw [e1] at hf
    simp only [Option.bind_some] at hf
    refine e ρ π y π1 e1 pa H0 F H σ _ w s fun F1 H1 p => ?_
    cases y with
    | true =>
      rw [if_pos rfl] at hf ⊢
      exact e2 ρ π1 x π' hf pa H0 F1 H1 σ _ p.wd (s.post w p) fun F2 H2 p2 => q F2 H2 (p.trans w p2)
    | false =>
      rw [if_neg Bool.false_ne_true] at hf ⊢
      cases hf
      exact q F1 H1 p
theorem evt_or (e : EvT K tt b) (e2 : EvT K tu c) : EvT K (tOr tt tu) (fOrT b c) := fun ρ π x π' hf pa H0 F H σ Q w s q => by
  unfold fOrT at hf
  cases e1 : b ρ π with
  | none => rw [e1] at hf; cases hf
  | some r =>
    obtain ⟨y, π1⟩ := r
    rw [e1] at hf
    simp only [Option.bind_some] at hf
    refine e ρ π y π1 e1 pa H0 F H σ _ w s fun F1 H1 p => ?_
    cases y with
    | false =>
      rw [if_neg Bool.false_ne_true] at hf ⊢
      exact e2 ρ π1 x π' hf pa H0 F1 H1 σ _ p.wd (s.post w p) fun F2 H2 p2 => q F2 H2 (p.trans w p2)
    | true =>
      rw [if_pos rfl] at hf ⊢
      cases hf
      exact q F1 H1 p
def fAndV (f g : MX) : MX := fun ρ π => (asB (f ρ π)).bind fun (x, π1) => if x = true then g ρ π1 else some (.bool false, π1)
def fOrV (f g : MX) : MX := fun ρ π => (asB (f ρ π)).bind fun (x, π1) => if x = true then some (.bool true, π1) else g ρ π1
def fNotV (f : MX) : MX := fun ρ π => (asB (f ρ π)).map fun (x, π1) => (.bool (!x), π1)
theorem ev_andV (e : EvX K ta f) (e2 : EvE K tb g) : EvE K (tAndV ta tb) (fAndV f g) := fun ρ π x π' hf pa H0 F H σ Q w s q => by
  unfold fAndV at hf
  cases e1 : asB (f ρ π) with
  | none => rw [e1] at hf; cases hf
  | some r =>
    obtain ⟨y, π1⟩ := r
    rw [e1] at hf
    simp only [Option.bind_some] at hf
    refine e ρ π _ π1 (asB_some e1) pa H0 F H σ _ w s fun v F1 H1 p r => ⟨y, r.bool_inv, ?_⟩
    cases y with
    | true =>
      rw [if_pos rfl] at hf ⊢
      exact e2 ρ π1 x π' hf pa H0 F1 H1 σ _ p.wd (s.post w p) fun v F2 H2 p2 r2 => q v F2 H2 (p.trans w p2) r2
    | false =>
      rw [if_neg Bool.false_ne_true] at hf ⊢
      cases hf
      exact q _ F1 H1 p (.bl false)
theorem ev_orV (e : EvX K ta f) (e2 : EvE K tb g) : EvE K (tOrV ta tb) (fOrV f g) := fun ρ π x π' hf pa H0 F H σ Q w s q => by
  unfold fOrV at hf
  cases e1 : asB (f ρ π) with
  | none => rw [e1] at hf; cases hf
  | some r =>
    obtain ⟨y, π1⟩ := r
    rw [e1] at hf
    simp only [Option.bind_some] at hf
    refine e ρ π _ π1 (asB_some e1) pa H0 F H σ _ w s fun v F1 H1 p r => ⟨y, r.bool_inv, ?_⟩
    cases y with
    | false =>
      rw [if_neg Bool.false_ne_true] at hf ⊢
      exact e2 ρ π1 x π' hf pa H0 F1 H1 σ _ p.wd (s.post w p) fun v F2 H2 p2 r2 => q v F2 H2 (p.trans w p2) r2
    | true =>
      rw [if_pos rfl] at hf ⊢
      cases hf
      exact q _ F1 H1 p (.bl true)
theorem ev_notV (e : EvX K ta f) : EvE K (tNotV ta) (fNotV f) := fun ρ π x π' hf pa H0 F H σ Q w s q => by
  unfold fNotV at hf
  cases e1 : asB (f ρ π) with
  | none => rw [e1] at hf; cases hf
  | some r =>
    obtain ⟨y, π1⟩ := r
    rw [e1] at hf
    cases hf
    exact e ρ π _ _ (asB_some e1) pa H0 F H σ _ w s fun v F1 H1 p r => ⟨y, r.bool_inv, q _ F1 H1 p (.bl _)⟩
/-- a if t else b -/
def fIf (b : MT) (f g : MX) : MX := fun ρ π => (b ρ π).bind fun (x, π1) => if x = true then f ρ π1 else g ρ π1
theorem ev_if (e : EvT K tt b) (ea : EvE K ta f) (eb : EvE K tb g) : EvE K (tIf tt ta tb) (fIf b f g) := fun ρ π x π' hf pa H0 F H σ Q w s q => by
  unfold fIf at hf
  cases e1 : b ρ π with
  | none => rw [e1] at hf; cases hf
  | some r =>
    obtain ⟨y, π1⟩ := r
    rw [e1] at hf
    simp only [Option.bind_some] at hf
    refine e ρ π y π1 e1 pa H0 F H σ _ w s fun F1 H1 p => ?_
    cases y with
    | true =>
      rw [if_pos rfl] at hf ⊢
      exact ea ρ π1 x π' hf pa H0 F1 H1 σ _ p.wd (s.post w p) fun v F2 H2 p2 r2 => q v F2 H2 (p.trans w p2) r2
    | false =>
      rw [if_neg Bool.false_ne_true] at hf ⊢
      exact eb ρ π1 x π' hf pa H0 F1 H1 σ _ p.wd (s.post w p) fun v F2 H2 p2 r2 => q v F2 H2 (p.trans w p2) r2
/-- .. of two new lists -/
def fIfN (b : MT) (f g : ML) : ML := fun ρ π => (b ρ π).bind fun (x, π1) => if x = true then f ρ π1 else g ρ π1
theorem ev_ifN {k l : ML} (e : EvT K tt b) (ea : EvN K ta k) (eb : EvN K tb l) : EvN K (tIf tt ta tb) (fIfN b k l) := fun ρ π x π' hf pa H0 F H σ Q w s q => by
  unfold fIfN at hf
  cases e1 : b ρ π with
  | none => rw [e1] at hf; cases hf
  | some r =>
    obtain ⟨y, π1⟩ := r
    rw [e1] at hf
    simp only [Option.bind_some] at hf
    refine e ρ π y π1 e1 pa H0 F H σ _ w s fun F1 H1 p => ?_
    cases y with
    | true =>
      rw [if_pos rfl] at hf ⊢
      exact ea ρ π1 x π' hf pa H0 F1 H1 σ _ p.wd (s.post w p) fun a vs F2 H2 p2 ha hF hp hH r2 => q a vs F2 H2 (p.trans w p2) (p.fresh ha) hF hp hH r2
    | false =>
      rw [if_neg Bool.false_ne_true] at hf ⊢
      exact eb ρ π1 x π' hf pa H0 F1 H1 σ _ p.wd (s.post w p) fun a vs F2 H2 p2 ha hF hp hH r2 => q a vs F2 H2 (p.trans w p2) (p.fresh ha) hF hp hH r2
/-- a op1 b op2 c -/
def fCh (g g' : PyData → PyData → Option PyData) (f h k : MX) : MX := fun ρ π => (f ρ π).bind fun (x, π1) => (h ρ π1).bind fun (y, π2) =>
  match g x y with
  | some (.bool true) => (k ρ π2).bind fun (z, π3) => (g' y z).map fun d => (d, π3)
  | some (.bool false) => some (.bool false, π2)
  | _ => none
theorem ev_chain {tc : TE} {k : MX} {r r' : R2} {g g' : PyData → PyData → Option PyData} (sm : Sim2 K r g) (sm' : Sim2 K r' g') (ea : EvX K ta f) (eb : EvX K tb h) (ec : EvX K tc k) : EvE K (tChain r r' ta tb tc) (fCh g g' f h k) := fun ρ π d π' hf pa H0 F H σ Q w s q => by
  unfold fCh at hf
  cases e1 : f ρ π with
  | none => rw [e1] at hf; cases hf
  | some o1 =>
    obtain ⟨x, π1⟩ := o1
    rw [e1] at hf
    simp only [Option.bind_some] at hf
    cases e2 : h ρ π1 with
    | none => rw [e2] at hf; cases hf
    | some o2 =>
      obtain ⟨y, π2⟩ := o2
      rw [e2] at hf
      simp only [Option.bind_some] at hf
      refine ea ρ π x π1 e1 pa H0 F H σ _ w s fun v F1 H1 p1 r1 => ?_
      refine eb ρ π1 y π2 e2 pa H0 F1 H1 σ _ p1.wd (s.post w p1) fun u F2 H2 p2 r2 => ?_
      have p12 := p1.trans w p2
      split at hf
      · rename_i e3
        cases e4 : k ρ π2 with
        | none => rw [e4] at hf; cases hf
        | some o4 =>
          obtain ⟨z, π3⟩ := o4
          rw [e4] at hf
          simp only [Option.bind_some] at hf
          cases e5 : g' y z with
          | none => rw [e5] at hf; cases hf
          | some d' =>
            rw [e5] at hf
            cases hf
            refine sm pa F2 H2 π2 v u x y _ _ p2.wd (r1.post p1.wd p2) r2 e3 fun zv F3 H3 p3 r3 => ⟨true, r3.bool_inv, ?_⟩
            rw [if_pos rfl]
            have p13 := p12.trans w p3
            refine ec ρ π2 z _ e4 pa H0 F3 H3 σ _ p3.wd (s.post w p13) fun t F4 H4 p4 r4 => ?_
            exact sm' pa F4 H4 _ u t y z d Q p4.wd ((r2.post p2.wd p3).post p3.wd p4) r4 e5 fun z5 F5 H5 p5 r5 => q z5 F5 H5 ((p13.trans w p4).trans w p5) r5
      · rename_i e3
        cases hf
        refine sm pa F2 H2 _ v u x y _ _ p2.wd (r1.post p1.wd p2) r2 e3 fun zv F3 H3 p3 r3 => ⟨false, r3.bool_inv, ?_⟩
        rw [if_neg Bool.false_ne_true]
        exact q _ F3 H3 (p12.trans w p3) (.bl false)
      · cases hf

/-! #### displays -/
def fNil : ML := fun _ π => some ([], π)
def fCons (f : MX) (l : ML) : ML := fun ρ π => (f ρ π).bind fun (x, π1) => (l ρ π1).map fun (xs, π2) => (x :: xs, π2)
theorem fCons_some {ρ : Ev} {π π' : Pt} {ds : List PyData} (e : fCons f l ρ π = some (ds, π')) : ∃ x π1 xs, f ρ π = some (x, π1) ∧ l ρ π1 = some (xs, π') ∧ ds = x :: xs := by
  unfold fCons at e
  cases q : f ρ π with
  | none => rw [q] at e; cases e
  | some r =>
    obtain ⟨x, π1⟩ := r
    rw [q] at e
    simp only [Option.bind_some] at e
    cases q2 : l ρ π1 with
    | none => rw [q2] at e; cases e
    | some r2 =>
      obtain ⟨xs, π2⟩ := r2
      rw [q2] at e
      cases e
      exact ⟨x, π1, xs, rfl, q2, rfl⟩
theorem eva_nil : EvA K tNil fNil := fun ρ π ds π' hf pa H0 F H σ Q w s q => by
  cases hf; exact q [] F H (.refl w) .nil
theorem eva_cons {tr : TA} (e : EvE K te f) (er : EvA K tr l) : EvA K (tCons te tr) (fCons f l) := fun ρ π ds π' hf pa H0 F H σ Q w s q => by
  obtain ⟨x, π1, xs, e1, e2, rfl⟩ := fCons_some hf
  refine e ρ π x π1 e1 pa H0 F H σ _ w s fun v F1 H1 p1 r1 => ?_
  exact er ρ π1 xs π' e2 pa H0 F1 H1 σ _ p1.wd (s.post w p1) fun vs F2 H2 p2 r2 => q (v :: vs) F2 H2 (p1.trans w p2) (.cons (r1.mono p2.ff) r2)
/-- a tuple's display (short enough) -/
def fTup (l : ML) : MX := fun ρ π => (l ρ π).bind fun (xs, π1) => if xs.length ≤ sizeLine then some (.tuple xs, π1) else none
def fLst (l : ML) : ML := fun ρ π => (l ρ π).bind fun (xs, π1) => if xs.length ≤ sizeLine then some (xs, π1) else none
theorem ev_tup {tr : TA} (er : EvA K tr l) : EvE K (tTup tr) (fTup l) := fun ρ π d π' hf pa H0 F H σ Q w s q => by
  unfold fTup at hf
  cases e1 : l ρ π with
  | none => rw [e1] at hf; cases hf
  | some r =>
    obtain ⟨xs, π1⟩ := r
    rw [e1] at hf
    simp only [Option.bind_some] at hf
    split at hf
    · rename_i hz
      cases hf
      refine er ρ π xs _ e1 pa H0 F H σ _ w s fun vs F1 H1 p1 r1 => ⟨by rw [r1.length]; exact hz, fun p np => ?_⟩
      have a1 := p1.wd.add (o := .tup vs) np
      exact q (.ref p) _ _ (p1.trans w a1) (.tup (.inl (.inl upd_same)) (r1.mono a1.ff))
    · cases hf
theorem ev_lst {tr : TA} (er : EvA K tr l) : EvN K (tLst tr) (fLst l) := fun ρ π d π' hf pa H0 F H σ Q w s q => by
  unfold fLst at hf
  cases e1 : l ρ π with
  | none => rw [e1] at hf; cases hf
  | some r =>
    obtain ⟨xs, π1⟩ := r
    rw [e1] at hf
    simp only [Option.bind_some] at hf
    split at hf
    · rename_i hz
      cases hf
      refine er ρ π d _ e1 pa H0 F H σ _ w s fun vs F1 H1 p1 r1 => ⟨by rw [r1.length]; exact hz, fun p np => ?_⟩
      have a1 := p1.wd.addM (o := .lst vs) np
      exact q p vs F1 _ (p1.trans w a1) (p1.fresh np) (p1.wd.free np) (p1.wd.pa_ne np) upd_same r1
    · cases hf
end
end DL

set_option maxHeartbeats 1000000
namespace DL
open PySem PySem.Spec PyProof.Rows L2
set_option autoImplicit false
section
variable {X : Cx} {K : PySem.W.Frag}

/-! #### + -/
def b2 (b : Bool) : Int := if b = true then 1 else 0
def gAdd : PyData → PyData → Option PyData
  | .int i, .int j => some (.int (i + j))
  | .bool a, .int j => some (.int (b2 a + j))
  | .int i, .bool b => some (.int (i + b2 b))
  | .str x, .str y => if x.length + y.length ≤ sizeLine then some (.str (x ++ y)) else none
  | .tuple xs, .tuple ys => if xs.length + ys.length ≤ sizeLine then some (.tuple (xs ++ ys)) else none
  | _, _ => none
abbrev rAddAll (K : PySem.W.Frag) : R2 := fun x y H Q => (∃ i j, x = .int i ∧ y = .int j ∧ Q (.int (i + j)) H) ∨ (∃ a j, x = .bl a ∧ y = .int j ∧ Q (.int (b2 a + j)) H) ∨
  (∃ i k, x = .int i ∧ y = .bl k ∧ Q (.int (i + b2 k)) H) ∨ (∃ i j, x = .str i ∧ y = .str j ∧ i.length + j.length ≤ sizeLine ∧ Q (.str (i ++ j)) H) ∨ rCatA K x y H Q
theorem op_add_bi : OpR X (binaryOp .Add) (fun x y H Q => ∃ a j, x = .bl a ∧ y = .int j ∧ Q (.int (b2 a + j)) H) := by
  intro pins s σ H x y v u Q I rx ry h
  obtain ⟨a, j, rfl, rfl, q⟩ := h
  cases rx
  obtain ⟨t, rfl⟩ := ry
  exact PySem.IntBool.add_bool_int ⟨.int (b2 a + j), H, I.tok _, ⟨_, rfl⟩, q⟩
theorem op_addAll : OpR X (binaryOp .Add) (rAddAll X.K) := OpR.or op_add (OpR.or op_add_bi (OpR.or op_add_ib (OpR.or op_add_str op_catA)))
theorem RpA.nil_iff {F : Hp} {vs : List V} {ds : List PyData} (r : RpA K F vs ds) : vs = [] ↔ ds = [] := by
  cases r with
  | nil => simp
  | cons _ _ => simp
theorem sim_add : Sim2 K (rAddAll K) gAdd := by
  intro pa F H π x y dx dy d Q w rx ry e q
  unfold gAdd at e
  split at e
  · cases e; exact .inl ⟨_, _, rx.int_inv, ry.int_inv, q _ F H (.refl w) (.int _)⟩
  · cases e; exact .inr (.inl ⟨_, _, rx.bool_inv, ry.int_inv, q _ F H (.refl w) (.int _)⟩)
  · cases e; exact .inr (.inr (.inl ⟨_, _, rx.int_inv, ry.bool_inv, q _ F H (.refl w) (.int _)⟩))
  · split at e
    · rename_i hz
      cases e; exact .inr (.inr (.inr (.inl ⟨_, _, rx.str_inv, ry.str_inv, hz, q _ F H (.refl w) (.str _)⟩)))
    · cases e
  · split at e
    · rename_i xs ys hz
      cases e
      obtain ⟨a, vs, rfl, ha, ra, fa⟩ := rx.tup_inv w
      obtain ⟨b, us, rfl, hb, rb, fb⟩ := ry.tup_inv w
      refine .inr (.inr (.inr (.inr ⟨a, b, vs, us, rfl, rfl, ha, hb, by rw [ra.length, rb.length]; exact hz, fun e0 => ?_, fun n0 e0 => ?_, fun n0 n1 p np => ?_⟩)))
      · have e1 := ra.nil_iff.mp e0
        subst e1
        exact q _ F H (.refl w) (.tup fb rb)
      · have e1 := rb.nil_iff.mp e0
        subst e1
        rw [List.append_nil] at q
        exact q _ F H (.refl w) (.tup fa ra)
      · have a1 := w.add (o := .tup (vs ++ us)) np
        exact q (.ref p) _ _ a1 (.tup (.inl (.inl upd_same)) ((ra.append rb).mono a1.ff))
    · cases e
  · cases e

/-! #### lists: +, * -/
def rCatL (K : PySem.W.Frag) : R2 := fun x y H Q => ∃ l b xs zs, x = .ref l ∧ y = .ref b ∧ SqL K H l xs ∧ SqL K H b zs ∧ xs.length + zs.length ≤ sizeLine ∧ ∀ p, H p = none → Q (.ref p) (upd H p (.lst (xs ++ zs)))
theorem op_catL : OpR X (binaryOp .Add) (rCatL X.K) := by
  intro pins s σ H x y v u Q I rx ry h
  obtain ⟨l, b, xs, zs, rfl, rfl, hH, hB, hz, q⟩ := h
  cases rx
  cases ry
  obtain ⟨its, r, ⟨⟨cls, dd, data, sl⟩, n, ho, hc, hd, hs⟩, _⟩ := I.list hH
  obtain ⟨its2, r2, ⟨⟨cls2, dd2, data2, sl2⟩, n2, ho2, hc2, hd2, hs2⟩, _⟩ := I.list hB
  simp only at hc hd hs hc2 hd2 hs2
  subst hc hd hs hc2 hd2 hs2
  have hl := r.length
  have hl2 := r2.length
  have ea : its.toArray ++ its2.toArray = (its ++ its2).toArray := by simp
  refine concat_meets ⟨_, ho, rfl⟩ ⟨_, ho2, rfl⟩ noFill_list_add seq_list_add PySem.F.slot_list_add PySem.F.entry_list_add (PySem.F.args_list_add_2 _ _)
    (list_addW l b its.toArray its2.toArray n n2 none none sl sl2 (by rw [List.size_toArray, List.size_toArray]; omega)) ⟨ho, ho2, ?_⟩
  rw [ea]
  exact ⟨.ref _, _, I.lnew (t' := s.toks) (r.append r2) (by rw [List.length_append]; omega), rfl, q _ I.fresh⟩
def gCatL : PyData → PyData → Option (List PyData)
  | .list xs, .list ys => if xs.length + ys.length ≤ sizeLine then some (xs ++ ys) else none
  | _, _ => none
theorem sim_catL : Sim2N K (rCatL K) gCatL := by
  intro pa F H π x y dx dy d Q w rx ry e q
  unfold gCatL at e
  split at e
  · split at e
    · rename_i xs ys hz
      cases e
      obtain ⟨a, vs, rfl, ha, ra⟩ := rx.lst_inv w
      obtain ⟨b, us, rfl, hb, rb⟩ := ry.lst_inv w
      refine ⟨a, b, vs, us, rfl, rfl, ha, hb, by rw [ra.length, rb.length]; exact hz, fun p np => ?_⟩
      exact q p (vs ++ us) F _ (w.addM np) np (w.free np) (w.pa_ne np) upd_same (ra.append rb)
    · cases e
  · cases e

/-! #### ints -/
def gSubI : PyData → PyData → Option PyData
  | .int i, .int j => some (.int (i - j))
  | .bool a, .int j => some (.int (b2 a - j))
  | _, _ => none
abbrev rSubAll : R2 := fun x y H Q => (∃ i j, x = .int i ∧ y = .int j ∧ Q (.int (i - j)) H) ∨ (∃ a j, x = .bl a ∧ y = .int j ∧ Q (.int (b2 a - j)) H)
theorem op_sub_bi : OpR X (binaryOp .Sub) (fun x y H Q => ∃ a j, x = .bl a ∧ y = .int j ∧ Q (.int (b2 a - j)) H) := by
  intro pins s σ H x y v u Q I rx ry h
  obtain ⟨a, j, rfl, rfl, q⟩ := h
  cases rx
  obtain ⟨t, rfl⟩ := ry
  exact PySem.IntBool.sub_bool_int ⟨.int (b2 a - j), H, I.tok _, ⟨_, rfl⟩, q⟩
theorem op_subAll : OpR X (binaryOp .Sub) rSubAll := OpR.or op_sub op_sub_bi
theorem sim_sub : Sim2 K rSubAll gSubI := by
  intro pa F H π x y dx dy d Q w rx ry e q
  unfold gSubI at e
  split at e
  · cases e; exact .inl ⟨_, _, rx.int_inv, ry.int_inv, q _ F H (.refl w) (.int _)⟩
  · cases e; exact .inr ⟨_, _, rx.bool_inv, ry.int_inv, q _ F H (.refl w) (.int _)⟩
  · cases e
/-- ints under a side condition -/
def gI (C : Int → Int → Bool) (f : Int → Int → Int) : PyData → PyData → Option PyData
  | .int i, .int j => if C i j = true then some (.int (f i j)) else none
  | _, _ => none
theorem sim_I {C' : Int → Int → Prop} {C : Int → Int → Bool} {f : Int → Int → Int} (hC : ∀ i j, C i j = true → C' i j) : Sim2 K (rI C' fun i j => .int (f i j)) (gI C f) := by
  intro pa F H π x y dx dy d Q w rx ry e q
  unfold gI at e
  split at e
  · split at e
    · rename_i hc
      cases e; exact ⟨_, _, rx.int_inv, ry.int_inv, hC _ _ hc, q _ F H (.refl w) (.int _)⟩
    · cases e
  · cases e
def cMul (i j : Int) : Bool := (decide (-(2 ^ 64) < i) && decide (i < 2 ^ 64)) || (decide (-(2 ^ 64) < j) && decide (j < 2 ^ 64))
theorem cMul_ok (i j : Int) (h : cMul i j = true) : CMul i j := by
  unfold cMul at h
  simp only [Bool.or_eq_true, Bool.and_eq_true, decide_eq_true_eq] at h
  exact h
def cDiv (_ j : Int) : Bool := decide (0 < j) && decide (j < 1073741824)
theorem cDiv_ok (i j : Int) (h : cDiv i j = true) : CDiv i j := by
  unfold cDiv at h
  simp only [Bool.and_eq_true, decide_eq_true_eq] at h
  exact h
def cMod (_ j : Int) : Bool := decide (0 < j)
def cPow (i j : Int) : Bool := decide (0 ≤ j) && decide (j ≤ 1000000) && decide (i.natAbs < 2 ^ 64)
theorem cPow_ok (i j : Int) (h : cPow i j = true) : CPow i j := by
  unfold cPow at h
  simp only [Bool.and_eq_true, decide_eq_true_eq] at h
  exact ⟨h.1.1, h.1.2, h.2⟩
def gMulI := gI cMul fun i j => i * j
def gDiv := gI cDiv fun i j => i / j
def gMod := gI cMod fun i j => i % j
def gPow := gI cPow fun i j => i ^ j.toNat
theorem sim_mulI : Sim2 K (rI CMul fun i j => .int (i * j)) gMulI := sim_I cMul_ok
theorem sim_div : Sim2 K (rI CDiv fun i j => .int (i / j)) gDiv := sim_I cDiv_ok
theorem sim_mod : Sim2 K (rI (fun _ j => 0 < j) fun i j => .int (i % j)) gMod := sim_I fun _ _ h => of_decide_eq_true h
theorem sim_pow : Sim2 K (rI CPow fun i j => .int (i ^ j.toNat)) gPow := sim_I cPow_ok
/-- tuple * int, (int * int) -/
def gMul : PyData → PyData → Option PyData
  | .int i, .int j => gMulI (.int i) (.int j)
  | .tuple xs, .int k => if xs ≠ [] ∧ 2 ≤ k ∧ k ≤ 1000 ∧ xs.length ≤ 1000 then some (.tuple (List.replicate k.toNat xs).flatten) else none
  | _, _ => none
theorem RpA.rep {F : Hp} {vs : List V} {ds : List PyData} (r : RpA K F vs ds) : ∀ n : Nat, RpA K F (List.replicate n vs).flatten (List.replicate n ds).flatten
  | 0 => .nil
  | n + 1 => by
    rw [List.replicate_succ, List.replicate_succ, List.flatten_cons, List.flatten_cons]
    exact r.append (RpA.rep r n)
theorem op_mulAll : OpR X (binaryOp .Mult) (fun x y H Q => rI CMul (fun i j => .int (i * j)) x y H Q ∨ rRepT X.K x y H Q) := OpR.or op_mul op_repT
theorem sim_mul : Sim2 K (fun x y H Q => rI CMul (fun i j => .int (i * j)) x y H Q ∨ rRepT K x y H Q) gMul := by
  intro pa F H π x y dx dy d Q w rx ry e q
  unfold gMul at e
  split at e
  · exact .inl (sim_mulI pa F H π x y _ _ d Q w rx ry e q)
  · split at e
    · rename_i xs k hz
      cases e
      obtain ⟨a, vs, rfl, ha, ra, fa⟩ := rx.tup_inv w
      obtain ⟨h1, h2, h3, h4⟩ := hz
      refine .inr ⟨a, k, vs, rfl, ry.int_inv, ha, fun z => h1 (ra.nil_iff.mp z), h2, h3, by rw [ra.length]; exact h4, fun p np => ?_⟩
      have a1 := w.add (o := .tup (List.replicate k.toNat vs).flatten) np
      exact q (.ref p) _ _ a1 (.tup (.inl (.inl upd_same)) ((ra.rep _).mono a1.ff))
    · cases e
  · cases e
/-- comparisons of ints -/
def gCmp (p : Int → Int → Bool) : PyData → PyData → Option PyData
  | .int i, .int j => some (.bool (p i j))
  | _, _ => none
theorem sim_cmp (p : Int → Int → Bool) : Sim2 K (rI0 fun i j => .bl (p i j)) (gCmp p) := by
  intro pa F H π x y dx dy d Q w rx ry e q
  unfold gCmp at e
  split at e
  · cases e; exact ⟨_, _, rx.int_inv, ry.int_inv, q _ F H (.refl w) (.bl _)⟩
  · cases e
def gLt := gCmp fun i j => decide (i < j)
def gLe := gCmp fun i j => decide (i ≤ j)
def gGt := gCmp fun i j => decide (j < i)
def gGe := gCmp fun i j => decide (j ≤ i)
def gNeg : PyData → Option PyData
  | .int i => some (.int (-i))
  | _ => none
theorem sim_neg : Sim1 K (rU fun i => .int (-i)) gNeg := by
  intro pa F H π x dx d Q w rx e q
  unfold gNeg at e
  split at e
  · cases e; exact ⟨_, rx.int_inv, q _ F H (.refl w) (.int _)⟩
  · cases e

/-! #### is None -/
def isNone : PyData → Bool
  | .none => true
  | _ => false
def gIsN (neg : Bool) : PyData → PyData → Option PyData
  | x, .none => some (.bool (if neg = true then !isNone x else isNone x))
  | _, _ => none
theorem isNone_of {pa : Option Addr} {F H : Hp} {x : V} {dx : PyData} (rx : RpX K pa F H x dx) : decide (x = V.non) = isNone dx := by
  rcases rx with h | ⟨a, vs, ds, rfl, rfl, _⟩
  · cases h <;> rfl
  · rfl
theorem sim_isN : Sim2 K (fun x y H Q => y = .non ∧ Q (.bl (decide (x = .non))) H) (gIsN false) := by
  intro pa F H π x y dx dy d Q w rx ry e q
  unfold gIsN at e
  split at e
  · cases e
    refine ⟨ry.non_inv, ?_⟩
    rw [isNone_of rx]
    exact q _ F H (.refl w) (.bl _)
  · cases e
theorem sim_notN : Sim2 K (fun x y H Q => y = .non ∧ Q (.bl (!decide (x = .non))) H) (gIsN true) := by
  intro pa F H π x y dx dy d Q w rx ry e q
  unfold gIsN at e
  split at e
  · cases e
    refine ⟨ry.non_inv, ?_⟩
    rw [isNone_of rx]
    exact q _ F H (.refl w) (.bl _)
  · cases e

theorem k_ne_sys {pins : List (Addr × Obj)} {σ : St} {H F : Hp} {s : Shared} {pa : Option Addr} {π : Pt} (I : Inv X pins σ H s) (w : Wd pa F H π) {a : Addr} {o : Obj} (h : X.K.lookup a = some o) : a ≠ sysModules := fun e => by
  subst e
  obtain ⟨u, q, _⟩ := w.sys
  have z := (I.bs _ _ (I.ok.mod.kin _ _ h)).2
  rw [z] at q
  cases q
theorem f_ne_sys {H F : Hp} {pa : Option Addr} {π : Pt} (w : Wd pa F H π) {a : Addr} {xs : List V} (h : Rd H a (.lst xs)) : a ≠ sysModules := by
  rcases h with h | ⟨o, h⟩
  · exact w.sys_ne h fun ⟨_, z⟩ => by cases z
  · exact w.sys_ne h fun ⟨_, z⟩ => by cases z
theorem l_ne_sys {pins : List (Addr × Obj)} {σ : St} {H F : Hp} {s : Shared} {pa : Option Addr} {π : Pt} (I : Inv X pins σ H s) (w : Wd pa F H π) {a : Addr} {xs : List V} (h : SqL X.K H a xs) : a ≠ sysModules := by
  rcases h with h | ⟨o, its, n, h, _⟩
  · exact f_ne_sys w h
  · exact k_ne_sys I w h
mutual
theorem Rp.reads {pins : List (Addr × Obj)} {σ : St} {H F : Hp} {s : Shared} {pa : Option Addr} {π : Pt} (I : Inv X pins σ H s) (w : Wd pa F H π) : ∀ (d : PyData) (v : V) (u : Value), Rp X.K F v d → RelV v u → ∃ as, Reads s.heap u d as ∧ sysModules ∉ as
  | .none, _, _, h, r => by
    cases h
    cases r
    exact ⟨_, Reads.none, by simp⟩
  | .bool b, _, _, h, r => by
    cases h
    cases r
    exact ⟨_, Reads.bool b, by simp⟩
  | .int i, _, _, h, r => by
    cases h
    obtain ⟨t, rfl⟩ := r
    exact ⟨_, Reads.int i t, by simp⟩
  | .str x, _, _, h, r => by
    cases h
    obtain ⟨t, rfl⟩ := r
    exact ⟨_, Reads.str x t, by simp⟩
  | .list ds, _, _, h, r => by
    cases h with
    | lst hs ha =>
      cases r
      have hs' := w.same.seq hs
      obtain ⟨its, rv, ⟨o, n, ho, hc, _, hd⟩, _⟩ := I.list hs'
      obtain ⟨as, hr, hn⟩ := Rp.readsAll I w ds _ its ha rv
      refine ⟨_, Reads.list ho hc hd hr, fun z => ?_⟩
      rcases List.mem_cons.mp z with z | z
      · exact l_ne_sys I w hs' z.symm
      · exact hn z
  | .tuple ds, _, _, h, r => by
    cases h with
    | tup hs ha =>
      cases r
      obtain ⟨its, rv, ⟨o, ho, hc, n, hd⟩, _⟩ := I.tuple (seqT_mono w.same hs)
      obtain ⟨as, hr, hn⟩ := Rp.readsAll I w ds _ its ha rv
      exact ⟨_, Reads.tuple ho hc hd hr, hn⟩
  | .dict [], _, _, h, r => by
    cases h with
    | @dct a hs =>
      cases r
      have hs' := w.same _ _ hs
      have hne : a ≠ sysModules := w.sys_ne hs' fun ⟨_, z⟩ => by cases z
      obtain ⟨_, _, vs, hkv, o, es, ep, ho, hc, hd, _, hk, _⟩ := I.hok _ _ hs'
      cases hkv
      have he : es.toList = [] := by
        generalize es.toList = l at hk
        cases hk
        rfl
      refine ⟨_, Reads.dict (kvs := []) (as := []) (bs := []) ho hc.1 hd (by rw [he]; exact ReadsAll.nil) (by rw [he]; exact ReadsAll.nil), fun z => ?_⟩
      have z' : sysModules = a := by simpa using z
      exact hne z'.symm
  | .dict (_ :: _), _, _, h, _ => by cases h
theorem Rp.readsAll {pins : List (Addr × Obj)} {σ : St} {H F : Hp} {s : Shared} {pa : Option Addr} {π : Pt} (I : Inv X pins σ H s) (w : Wd pa F H π) : ∀ (ds : List PyData) (vs : List V) (us : List Value), RpA X.K F vs ds → Vals vs us → ∃ as, ReadsAll s.heap us ds as ∧ sysModules ∉ as
  | [], _, _, h, r => by
    cases h
    cases r
    exact ⟨_, ReadsAll.nil, by simp⟩
  | d :: ds, _, _, h, r => by
    cases h with
    | cons h1 h2 =>
      cases r with
      | cons r1 r2 =>
        obtain ⟨as, q1, n1⟩ := Rp.reads I w d _ _ h1 r1
        obtain ⟨bs, q2, n2⟩ := Rp.readsAll I w ds _ _ h2 r2
        exact ⟨_, ReadsAll.cons q1 q2, fun z => (List.mem_append.mp z).elim n1 n2⟩
end
theorem RpX.reads {pins : List (Addr × Obj)} {σ : St} {H F : Hp} {s : Shared} {pa : Option Addr} {π : Pt} (I : Inv X pins σ H s) (w : Wd pa F H π) {d : PyData} {v : V} {u : Value} (h : RpX X.K pa F H v d) (r : RelV v u) : ∃ as, Reads s.heap u d as ∧ sysModules ∉ as := by
  rcases h with h | ⟨a, vs, ds, rfl, rfl, h1, h2, h3, h4⟩
  · exact Rp.reads I w d v u h r
  · cases r
    obtain ⟨its, rv, ⟨o, n, ho, hc, _, hd⟩, _⟩ := I.list (SqL.of h3)
    obtain ⟨as, hr, hn⟩ := Rp.readsAll I w ds _ its h4 rv
    refine ⟨_, Reads.list ho hc hd hr, fun z => ?_⟩
    rcases List.mem_cons.mp z with z | z
    · exact f_ne_sys w (.inl h3) z.symm
    · exact hn z

def rEqX (K : PySem.W.Frag) (neg : Bool) : R2 := fun x y H Q => ∃ pa F π d e, Wd pa F H π ∧ RpX K pa F H x d ∧ RpX K pa F H y e ∧ SeqAt.shaped d = true ∧ SeqAt.shaped e = true ∧ Q (.bl (if neg = true then !PyData.eqv d e else PyData.eqv d e)) H
theorem op_eqX (hu : X.A.units + 64 < cLine) : OpR X (compareOp .Eq) (rEqX X.K false) := by
  intro pins s σ H x y v u Q I rx ry h
  obtain ⟨pa, F, π, d, e, w, hd, he, sd, se, q⟩ := h
  obtain ⟨as, r1, _⟩ := hd.reads I w rx
  obtain ⟨bs, r2, _⟩ := he.reads I w ry
  exact SeqAt.compareEq_shaped r1 r2 sd se hu ⟨.bl _, H, I, rfl, q⟩
theorem op_neX (hu : X.A.units + 64 < cLine) : OpR X (compareOp .NotEq) (rEqX X.K true) := by
  intro pins s σ H x y v u Q I rx ry h
  obtain ⟨pa, F, π, d, e, w, hd, he, sd, se, q⟩ := h
  obtain ⟨as, r1, _⟩ := hd.reads I w rx
  obtain ⟨bs, r2, _⟩ := he.reads I w ry
  exact SeqAt.compareNe_shaped r1 r2 sd se hu ⟨.bl _, H, I, rfl, q⟩
def rEqS (neg : Bool) : R2 := fun x y H Q => scal x y = true ∧ Q (.bl (if neg = true then !decide (x = y) else decide (x = y))) H
def rEqY (K : PySem.W.Frag) (neg : Bool) : R2 := fun x y H Q => rEqS neg x y H Q ∨ rEqX K neg x y H Q
theorem op_eqY (hu : X.A.units + 64 < cLine) : OpR X (compareOp .Eq) (rEqY X.K false) := OpR.or (show OpR X (compareOp .Eq) (rEqS false) from op_eq) (op_eqX hu)
theorem op_neY (hu : X.A.units + 64 < cLine) : OpR X (compareOp .NotEq) (rEqY X.K true) := OpR.or (show OpR X (compareOp .NotEq) (rEqS true) from op_ne) (op_neX hu)
def gEq (neg : Bool) : PyData → PyData → Option PyData
  | .str x, .str y => some (.bool (if neg = true then !decide (x = y) else decide (x = y)))
  | .int x, .int y => some (.bool (if neg = true then !decide (x = y) else decide (x = y)))
  | d, e => if SeqAt.shaped d = true ∧ SeqAt.shaped e = true then some (.bool (if neg = true then !PyData.eqv d e else PyData.eqv d e)) else none
theorem sim_eq (neg : Bool) : Sim2 K (rEqY K neg) (gEq neg) := by
  intro pa F H π x y dx dy d Q w rx ry e q
  unfold gEq at e
  split at e
  · rename_i z t
    cases e
    refine .inl ⟨by rw [rx.str_inv, ry.str_inv]; rfl, ?_⟩
    rw [rx.str_inv, ry.str_inv]
    have e1 : decide (V.str z = V.str t) = decide (z = t) := by simp
    rw [e1]
    exact q _ F H (.refl w) (.bl _)
  · rename_i z t
    cases e
    refine .inl ⟨by rw [rx.int_inv, ry.int_inv]; rfl, ?_⟩
    rw [rx.int_inv, ry.int_inv]
    have e1 : decide (V.int z = V.int t) = decide (z = t) := by simp
    rw [e1]
    exact q _ F H (.refl w) (.bl _)
  · split at e
    · rename_i hz
      cases e
      exact .inr ⟨pa, F, π, dx, dy, w, rx, ry, hz.1, hz.2, q _ F H (.refl w) (.bl _)⟩
    · cases e

/-! #### in -/
def flatD : PyData → Bool
  | .none => true
  | .bool _ => true
  | .int _ => true
  | .str _ => true
  | _ => false
def vOf : PyData → V
  | .none => .non
  | .bool b => .bl b
  | .int i => .int i
  | .str x => .str x
  | _ => .non
theorem vOf_flat {F : Hp} {v : V} {d : PyData} (h : Rp K F v d) (f : flatD d = true) : v = vOf d := by
  cases h <;> first | rfl | cases f
theorem flatV_of (d : PyData) : flatV (vOf d) = true := by cases d <;> rfl
theorem vsOf_flat {F : Hp} : ∀ {vs : List V} {ds : List PyData}, RpA K F vs ds → ds.all flatD = true → vs = ds.map vOf
  | _, _, .nil, _ => rfl
  | _, _, .cons r t, f => by
    rw [List.all_cons, Bool.and_eq_true] at f
    rw [vOf_flat r f.1, vsOf_flat t f.2]
    rfl
def inD (d : PyData) (ds : List PyData) : Bool := inV (vOf d) (ds.map vOf)
/-- a sign (or any text) in a text -/
def inS (x y : Str) : Bool := match x.cps.toList with
  | [c] => decide (c ∈ y.cps.toList)
  | _ => !(Builtin.Str.occurrences y x 0 y.length 1).isEmpty
def gIn (neg : Bool) : PyData → PyData → Option PyData
  | .str x, .str y => some (.bool (if neg = true then !inS x y else inS x y))
  | x, .list ys => if flatD x = true ∧ ys.all flatD = true then some (.bool (if neg = true then !inD x ys else inD x ys)) else none
  | x, .tuple ys => if flatD x = true ∧ ys.all flatD = true then some (.bool (if neg = true then !inD x ys else inD x ys)) else none
  | _, _ => none
theorem inS_eq (x y : Str) : (!(Builtin.Str.occurrences y x 0 y.length 1).isEmpty) = inS x y := by
  unfold inS
  split
  · rename_i c e
    have ex : x = ⟨#[c]⟩ := by
      obtain ⟨⟨l⟩⟩ := x
      have e' : l = [c] := e
      rw [e']
    rw [ex]
    exact PySem.StrLaws.found_one y c
  · rfl
theorem op_inAll : OpR X (compareOp .In) (fun x y H Q => (∃ i j, x = .str i ∧ y = .str j ∧ Q (.bl (!(Builtin.Str.occurrences j i 0 j.length 1).isEmpty)) H) ∨ rIn X.K false x y H Q) := OpR.or op_in_str op_in_seq
theorem op_notInAll : OpR X (compareOp .NotIn) (fun x y H Q => (∃ i j, x = .str i ∧ y = .str j ∧ Q (.bl (!(!(Builtin.Str.occurrences j i 0 j.length 1).isEmpty))) H) ∨ rIn X.K true x y H Q) := OpR.or L2.op_notIn_str op_notIn_seq
theorem flat_x {pa : Option Addr} {F H : Hp} {x : V} {dx : PyData} (rx : RpX K pa F H x dx) (f : flatD dx = true) : x = vOf dx := by
  rcases rx with h | ⟨a, vs, ds, rfl, rfl, _⟩
  · exact vOf_flat h f
  · cases f
theorem all_flatV : ∀ ds : List PyData, (ds.map vOf).all flatV = true
  | [] => rfl
  | d :: ds => by rw [List.map_cons, List.all_cons, flatV_of, all_flatV ds]; rfl
theorem sim_in : Sim2 K (fun x y H Q => (∃ i j, x = .str i ∧ y = .str j ∧ Q (.bl (!(Builtin.Str.occurrences j i 0 j.length 1).isEmpty)) H) ∨ rIn K false x y H Q) (gIn false) := by
  intro pa F H π x y dx dy d Q w rx ry e q
  unfold gIn at e
  split at e
  · rename_i i j
    cases e
    refine .inl ⟨i, j, rx.str_inv, ry.str_inv, ?_⟩
    rw [inS_eq]
    exact q _ F H (.refl w) (.bl _)
  · split at e
    · rename_i ys hz
      cases e
      obtain ⟨b, us, rfl, hb, rb⟩ := ry.lst_inv w
      have e1 := flat_x rx hz.1
      have e2 := vsOf_flat rb hz.2
      subst e1 e2
      exact .inr ⟨b, _, rfl, .inl hb, flatV_of _, all_flatV _, q _ F H (.refl w) (.bl _)⟩
    · cases e
  · split at e
    · rename_i ys hz
      cases e
      obtain ⟨b, us, rfl, hb, rb, _⟩ := ry.tup_inv w
      have e1 := flat_x rx hz.1
      have e2 := vsOf_flat rb hz.2
      subst e1 e2
      exact .inr ⟨b, _, rfl, .inr hb, flatV_of _, all_flatV _, q _ F H (.refl w) (.bl _)⟩
    · cases e
  · cases e
theorem sim_notIn : Sim2 K (fun x y H Q => (∃ i j, x = .str i ∧ y = .str j ∧ Q (.bl (!(!(Builtin.Str.occurrences j i 0 j.length 1).isEmpty))) H) ∨ rIn K true x y H Q) (gIn true) := by
  intro pa F H π x y dx dy d Q w rx ry e q
  unfold gIn at e
  split at e
  · rename_i i j
    cases e
    refine .inl ⟨i, j, rx.str_inv, ry.str_inv, ?_⟩
    rw [inS_eq]
    exact q _ F H (.refl w) (.bl _)
  · split at e
    · rename_i ys hz
      cases e
      obtain ⟨b, us, rfl, hb, rb⟩ := ry.lst_inv w
      have e1 := flat_x rx hz.1
      have e2 := vsOf_flat rb hz.2
      subst e1 e2
      exact .inr ⟨b, _, rfl, .inl hb, flatV_of _, all_flatV _, q _ F H (.refl w) (.bl _)⟩
    · cases e
  · split at e
    · rename_i ys hz
      cases e
      obtain ⟨b, us, rfl, hb, rb, _⟩ := ry.tup_inv w
      have e1 := flat_x rx hz.1
      have e2 := vsOf_flat rb hz.2
      subst e1 e2
      exact .inr ⟨b, _, rfl, .inr hb, flatV_of _, all_flatV _, q _ F H (.refl w) (.bl _)⟩
    · cases e
  · cases e

def gIx : PyData → PyData → Option PyData
  | .list xs, .int i => atI xs i
  | .tuple xs, .int i => atI xs i
  | .str z, .int i => if z.length ≤ sizeLine then (atI z.cps.toList i).map fun c => .str ⟨#[c]⟩ else none
  | _, _ => none
theorem RpA.atI {F : Hp} {vs : List V} {ds : List PyData} {i : Int} {d : PyData} (r : RpA K F vs ds) (e : L2.atI ds i = some d) : ∃ v, L2.atI vs i = some v ∧ Rp K F v d := by
  unfold L2.atI at e ⊢
  rw [r.length]
  cases q : ixN ds.length i with
  | none => rw [q] at e; cases e
  | some j =>
    rw [q] at e
    exact r.get e
theorem sim_ix : Sim2 K (rIx K) gIx := by
  intro pa F H π x y dx dy d Q w rx ry e q
  unfold gIx at e
  split at e
  · obtain ⟨b, us, rfl, hb, rb⟩ := rx.lst_inv w
    obtain ⟨v, e1, r1⟩ := rb.atI e
    exact .inl ⟨b, us, _, v, rfl, ry.int_inv, hb, e1, q v F H (.refl w) r1⟩
  · obtain ⟨b, us, rfl, hb, rb, _⟩ := rx.tup_inv w
    obtain ⟨v, e1, r1⟩ := rb.atI e
    exact .inr (.inl ⟨b, us, _, v, rfl, ry.int_inv, hb, e1, q v F H (.refl w) r1⟩)
  · split at e
    · rename_i z i hz
      cases q1 : L2.atI z.cps.toList i with
      | none => rw [q1] at e; cases e
      | some c =>
        rw [q1] at e
        cases e
        exact .inr (.inr ⟨z, i, c, rx.str_inv, ry.int_inv, hz, q1, q _ F H (.refl w) (.str _)⟩)
    · cases e
  · cases e
def cutD (xs : List PyData) (lo hi : Option Int) : List PyData := (xs.drop (HT.sIx xs.length 0 lo)).take (HT.sIx xs.length xs.length hi - HT.sIx xs.length 0 lo)
theorem RpA.cut {F : Hp} {vs : List V} {ds : List PyData} (r : RpA K F vs ds) (lo hi : Option Int) : RpA K F (cutV vs lo hi) (cutD ds lo hi) := by
  unfold cutV cutD
  rw [r.length]
  exact (r.drop _).take _
def gLen : PyData → Option PyData
  | .list xs => some (.int xs.length)
  | .tuple xs => some (.int xs.length)
  | .str z => if z.length ≤ sizeLine then some (.int z.length) else none
  | _ => none
theorem sim_len : SimC1 K (fun xs H Q => ∃ x n, xs = [x] ∧ LenV K x H n ∧ Q (.int n) H) gLen := by
  intro pa F H π x dx d Q w rx e q
  unfold gLen at e
  split at e
  · cases e
    obtain ⟨b, us, rfl, hb, rb⟩ := rx.lst_inv w
    exact ⟨_, us.length, rfl, .inl ⟨us, hb, rfl⟩, by rw [rb.length]; exact q _ F H (.refl w) (.int _)⟩
  · cases e
    obtain ⟨b, us, rfl, hb, rb, _⟩ := rx.tup_inv w
    exact ⟨_, us.length, rfl, .inr ⟨us, hb, rfl⟩, by rw [rb.length]; exact q _ F H (.refl w) (.int _)⟩
  · split at e
    · rename_i z hz
      cases e
      have ez := rx.str_inv
      subst ez
      exact ⟨_, z.length, rfl, ⟨hz, rfl⟩, q _ F H (.refl w) (.int _)⟩
    · cases e
  · cases e
end
end DL

set_option maxHeartbeats 1000000
namespace DL
open PySem PySem.Spec PyProof.Rows L2
open Sem (wp)
open AutoSeq1 (wpAny_loadPart')
set_option autoImplicit false

theorem meets_enum_tup (l : Addr) (items : Array Value) (n : Nat) (dct : Option Addr) (sl : Array (Option Value)) :
    Meets (Builtin.«enumerate.__new__» ⟨[.type "enumerate", .ref l], []⟩) (fun _ R s => s.heap.get? l = some { cls := .type "tuple", dict := dct, data := .seq items n, slots := sl } ∧
      R (.ok (.ret (.ref (s.heap.push { cls := .type "tuple_iterator", data := .fields #[.ref l, .int 0 0] }).objs.size)))
        { s with heap := (s.heap.push { cls := .type "tuple_iterator", data := .fields #[.ref l, .int 0 0] }).push { cls := .type "enumerate", data := .fields #[.none, .bool false, .ref s.heap.objs.size, rawInt 0, .none, .none] } }) :=
  .of_wp fun prog w A R s h => by
    obtain ⟨hp, g, d, tk, os⟩ := s
    obtain ⟨hl, h⟩ := h
    have hsub := sub_enumerate
    have hT : Heap.IsTuple (Shared.heap ⟨hp, g, d, tk, os⟩) l items := ⟨_, hl, rfl, n, rfl⟩
    wp_walk using wpAny_loadPart' hl
    refine wpAny_stack_any fun st => wpAny_pure ?_
    split
    · rename_i c _ _ _ _ _
      cases (c == Value.type "enumerate")
      · wp_walk using wpAny_loadPart' hl, wpAny_pyIter_tuple hT
        exact ⟨_, rfl, h⟩
      · wp_walk using wpAny_loadPart' hl, wpAny_pyIter_tuple hT
        exact ⟨_, rfl, h⟩
    · wp_walk using wpAny_loadPart' hl, wpAny_pyIter_tuple hT
      exact ⟨_, rfl, h⟩

theorem call_enum_tup {prog : Program} {w : World} {A : Around} {E : Value → Shared → Prop} {s : Shared} {l : Addr} {items : Array Value} {Q : Value → Shared → Prop} (hL : s.heap.IsTuple l items)
    (h : ∀ h', IsEnum h' (s.heap.objs.size + 1) s.heap.objs.size 0 .none → h'.IsTupleIter s.heap.objs.size l 0 → h'.objs.size = s.heap.objs.size + 2 →
      (∀ b o, s.heap.get? b = some o → h'.get? b = some o) → Q (.ref (s.heap.objs.size + 1)) { s with heap := h' }) :
    wpAny (model prog w) A (call (.type "enumerate") [.ref l]) Q E s := by
  obtain ⟨⟨c, dct, dt, sl⟩, hl, hc, n, hd⟩ := hL
  simp only at hc hd
  subst hc hd
  refine callType_new F.called_enumerate (by decide) (F.typeCall_enumerate_1 _) (F.newCall_enumerate_1 _) (fun obj => F.args_object_init_2 obj _) F.entry_enumerate_new
    (meets_enum_tup l items n dct sl) ⟨hl, ?_⟩
  have hz : (s.heap.push { cls := .type "tuple_iterator", data := .fields #[.ref l, .int 0 0] }).objs.size = s.heap.objs.size + 1 := Heap.size_push ..
  show _ ∧ _
  rw [hz]
  have he : IsEnum ((s.heap.push { cls := .type "tuple_iterator", data := .fields #[.ref l, .int 0 0] }).push
      { cls := .type "enumerate", data := .fields #[.none, .bool false, .ref s.heap.objs.size, rawInt 0, .none, .none] }) (s.heap.objs.size + 1) s.heap.objs.size 0 .none := by
    have := Heap.get?_push_size (s.heap.push { cls := .type "tuple_iterator", data := .fields #[.ref l, .int 0 0] })
      (o := { cls := .type "enumerate", data := .fields #[.none, .bool false, .ref s.heap.objs.size, rawInt 0, .none, .none] }) rfl
    rw [hz] at this
    exact this
  exact ⟨⟨_, he, rfl⟩, h _ he ⟨_, Heap.get?_push_of_some _ (Heap.get?_push_size _ rfl), rfl, rfl⟩ (by rw [Heap.size_push, hz]) fun b o x => Heap.get?_push_of_some _ (Heap.get?_push_of_some _ x)⟩

theorem enum_endT {prog : Program} {w : World} {A : Around} {E : Value → Shared → Prop} {s : Shared} {e it l : Addr} {i : Nat} {k : Int} {items : Array Value} {old : Value} {Q : Option Value → Shared → Prop} (hh : A.handled = none)
    (he : IsEnum s.heap e it k old) (hit : s.heap.IsTupleIter it l i) (hl : s.heap.IsTuple l items) (hx : items.size ≤ i)
    (hQ : ∀ h', Heap.ExtBut it s.heap h' → Q none { s with heap := h' }) : wpAny (model prog w) A (pyNext (.ref e)) Q E s := by
  have hT : s.TypeIs (.ref e) "enumerate" := ⟨_, he, rfl⟩
  unfold pyNext
  refine wpAny_bind (wpAny_attempt (wpAny_callSpecial?_slot (name := Str.ofString "__next__") hT F.slot_enumerate_next
    (wpAny_call_entry F.slot_enumerate_next hT F.entry_enumerate_next ?_ (F.args_enumerate_next_1 _))))
  show wpAny _ _ (field (.ref e) 2 >>= _) _ _ _
  refine wpAny_bind (wpAny_field he rfl (x := .ref it) rfl (wpAny_bind (wpAny_nextOf_tuple_end hh hit hl (Array.getElem?_eq_none hx) fun h' x he' hx' => ?_)))
  obtain ⟨o, ho, hc⟩ := hx'
  exact wpAny_bind (wpAny_isInstance (T := "StopIteration") (b := true) ⟨o, ho, hc⟩ isSubtype_stop (wpAny_pure (hQ _ he')))

/-- the tuple at a, its items numbered, in new pairs -/
def IteT (K : PySem.W.Frag) (a : Addr) : It :=
  ⟨fun i H => ∃ (xs : List V) (x : V), SqT K H a xs ∧ xs[i]? = some x, fun i H v H' => ∃ T x, v = .ref T ∧ H T = none ∧ H' = upd H T (.tup [.int (i : Nat), x]) ∧ ∀ xs, SqT K H a xs → xs[i]? = some x, fun i H => ∃ xs : List V, SqT K H a xs ∧ xs.length ≤ i⟩
theorem turn_enumT {P : Program} {w : World} {K : PySem.W.Frag} {elts : List Expr} {kk : Nat} {tpos : Pos} (a e it : Addr) (hae : a ≠ e) (hai : a ≠ it) :
    Turn P w K (.Tuple elts kk tpos) (IteT K a) [e, it] e (fun i h => (∃ old, IsEnum h e it ((i : Nat) : Int) old) ∧ h.IsTupleIter it a i ∧ e ≠ it) where
  mem := by simp
  obj := fun i h st b hb => by
    obtain ⟨⟨old, he⟩, ⟨o, ho, hc, hd⟩, _⟩ := st
    have e' : b = e ∨ b = it := by simpa using hb
    rcases e' with z | z
    · rw [z]; exact ⟨_, he, fun v q => nomatch q⟩
    · rw [z]; exact ⟨o, ho, fun v q => by rw [hd] at q; cases q⟩
  keep := fun i h h' st k => let ⟨⟨old, he⟩, hi, hne⟩ := st; ⟨⟨old, k e (by simp) _ he⟩, hi.at fun o q => k it (by simp) o q, hne⟩
  item := by
    intro X hP hw hK hc i pins s σ H E I hf st hg
    subst hP hw hK
    obtain ⟨⟨old, he⟩, hit, hne⟩ := st
    obtain ⟨xs, x, hq, hx⟩ := hg
    obtain ⟨its, rv, p, hz⟩ := I.tuple hq
    obtain ⟨u, hu, ru⟩ := rv.get hx
    have hel : e < s.heap.objs.size := Heap.lt_size he
    have hil : it < s.heap.objs.size := by obtain ⟨_, q, _⟩ := hit; exact Heap.lt_size q
    have ht : s.heap.IsTuple a its.toArray := p
    have hlt : i < its.toArray.size := by
      rw [List.size_toArray]
      exact (List.getElem?_eq_some_iff.mp hu).1
    refine wpAny_pyNext_enum_itemD (Draws.tuple (prog := X.prog) (w := X.w) (A := X.A.in1) (I.ok.hd hc) it a hai its.toArray) he ⟨hit, ht⟩ hlt hne (fun z => ?_) fun y h' tk hy ho hst hT hsz hk => ?_
    · have z' : e = it ∨ e = a := by simpa using z
      exact z'.elim hne (Ne.symm hae)
    · have ey : y = u := by
        have q1 : its.toArray[i]? = some u := by simpa using hu
        exact Option.some.inj (hy.symm.trans q1)
      subst ey
      refine ⟨_, rfl, wpAny_letOwnedTupleGo_enum (s := { s with heap := h', toks := tk + 1 }) ho fun h'' he' sb => ?_⟩
      have hT2 : h''.get? s.heap.objs.size = some { cls := .type "tuple", data := .seq #[.int i tk, y] } := (sb.2 _ (Nat.ne_of_gt hel)).trans hT
      have new : ObjOk X.prog X.w (upd H s.heap.objs.size (.tup [.int (i : Nat), x])) h'' s.heap.objs.size (.tup [.int (i : Nat), x]) :=
        ⟨by show 2 ≤ sizeLine; decide, [.int i tk, y], .cons ⟨_, rfl⟩ (.cons ru .nil), ⟨_, hT2, rfl, _, rfl⟩⟩
      have I1 : Inv X pins σ (upd H s.heap.objs.size (.tup [.int (i : Nat), x])) { s with heap := h'', toks := tk + 1 } :=
        I.turnedNew (ch := [e, it]) (fun b ob hb q => (sb.2 b (fun z => hb (by simp [z]))).trans (hk b ob (fun z => hb (by simp [z])) (fun z => hb (by simp [z])) q)) hf (Nat.le_refl _) new
      refine ⟨.ref s.heap.objs.size, _, I1, rfl, ⟨_, x, rfl, I.hok.fresh (Nat.le_refl _), rfl, fun ys hy => by rw [I.tuple_inj hy hq]; exact hx⟩, ⟨⟨y, ?_⟩, hst.1.at fun o q => (sb.2 it (Ne.symm hne)).trans q, hne⟩, fun b hb => ?_⟩
      · have e1 : ((i + 1 : Nat) : Int) = (i : Int) + 1 := by omega
        rw [e1]; exact he'
      · have hb' : b < s.heap.objs.size := by
          have e' : b = e ∨ b = it := by simpa using hb
          rcases e' with z | z
          · rw [z]; exact hel
          · rw [z]; exact hil
        rw [upd_ne (Nat.ne_of_lt hb')]
        exact (hf b hb).1
  done := by
    intro X hP hw hK hc i pins s σ H E I hf st hg
    subst hP hw hK
    obtain ⟨⟨old, he⟩, hit, hne⟩ := st
    obtain ⟨xs, hq, hx⟩ := hg
    obtain ⟨its, rv, p, hz⟩ := I.tuple hq
    obtain ⟨f0, f1, f2, f3, f4, f5⟩ := hf it (by simp)
    have hl := rv.length
    have ht : s.heap.IsTuple a its.toArray := p
    have hle : its.toArray.size ≤ i := by rw [List.size_toArray]; omega
    refine enum_endT (I.ok.hd hc) he hit ht hle fun h' eb => ⟨rfl, I.turned (t' := s.toks) (fun b o hb q => eb b o hb q) f0 f1 f3 f4 f5⟩
  self := fun A i s Q E st h => let ⟨⟨_, he⟩, _⟩ := st; wpAny_pyIter_enum he h
def iEnumA (K : PySem.W.Frag) (ta : TA) : TI := fun σ H R => ta σ H fun vs H1 => ∃ a xs, vs = [.ref a] ∧ ((SqL K H1 a xs ∧ R (Ite K a) H1) ∨ (SqT K H1 a xs ∧ R (IteT K a) H1))
theorem pi_enumA {X : Cx} {e : Expr} {ta : TA} {p pos tpos : Pos} {elts : List Expr} {kk : Nat} (hg : Gl X "enumerate") (hm : X.mg "enumerate" = none) (ha : PA X [e] ta) (hs : starEach [e] X.env = [(false, eval e X.env)] := by rfl) :
    PI X (.Tuple elts kk tpos) (.Call (.Name "enumerate" p) [e] [] pos) (iEnumA X.K ta) := by
  refine ⟨fun pins s σ H R I h => ?_⟩
  refine Call_ (ld_blt I hg hm boot_enumerate (PyProof.Rows.callWith_type1 (thn (ha.run pos pins s σ H _ I h) fun us s1 ⟨vs, H1, I1, r1, q1⟩ => ?_) hs rfl))
  obtain ⟨a, xs, ex, q⟩ := q1
  subst ex
  obtain ⟨u, rfl, r⟩ := vals1 r1
  cases r
  have fp : ∀ b ∈ [s1.heap.objs.size + 1, s1.heap.objs.size], FpOk X pins H1 b := fun b hb => by
    have e' : b = s1.heap.objs.size + 1 ∨ b = s1.heap.objs.size := by simpa using hb
    have hle : s1.heap.objs.size ≤ b := by
      rcases e' with z | z
      · rw [z]; exact Nat.le_add_right _ _
      · rw [z]; exact Nat.le_refl _
    exact I1.fpOk hle (I1.hok.fresh hle)
  rcases q with ⟨hq, q⟩ | ⟨hq, q⟩
  · obtain ⟨its, rv, p', hz⟩ := I1.list hq
    refine call_enumerate_list p'.isList fun h' he hit hsz hk => wpAny_pyIter_enum he ?_
    have I2 : Inv X pins σ H1 { s1 with heap := h' } := I1.kept (t' := s1.toks) hk
    exact ⟨s1.heap.objs.size + 1, [s1.heap.objs.size + 1, s1.heap.objs.size], _, _, H1, rfl, I2, turn_enum a (s1.heap.objs.size + 1) s1.heap.objs.size, ⟨⟨.none, he⟩, hit, Nat.succ_ne_self _⟩, fp, q⟩
  · obtain ⟨its, rv, p', hz⟩ := I1.tuple hq
    have pt : s1.heap.IsTuple a its.toArray := p'
    have hlt : a < s1.heap.objs.size := by obtain ⟨_, z, _⟩ := pt; exact Heap.lt_size z
    refine call_enum_tup pt fun h' he hit hsz hk => wpAny_pyIter_enum he ?_
    have I2 : Inv X pins σ H1 { s1 with heap := h' } := I1.kept (t' := s1.toks) hk
    exact ⟨s1.heap.objs.size + 1, [s1.heap.objs.size + 1, s1.heap.objs.size], _, _, H1, rfl, I2, turn_enumT a (s1.heap.objs.size + 1) s1.heap.objs.size (Nat.ne_of_lt (Nat.lt_succ_of_lt hlt)) (Nat.ne_of_lt hlt), ⟨⟨.none, he⟩, hit, Nat.succ_ne_self _⟩, fp, q⟩

/-- the walk J gives the data ds, wherever what was settled at F₀ stands -/
structure ItOk (K : PySem.W.Frag) (J : It) (F0 : Hp) (ds : List PyData) : Prop where
  go : ∀ pa i F H π, i < ds.length → Same F0 F → Wd pa F H π → J.go i H
  yld : ∀ pa i F H π x H' d, ds[i]? = some d → Same F0 F → Wd pa F H π → J.yld i H x H' → ∃ F', Post pa F H F' H' π ∧ Rp K F' x d
  stop : ∀ pa F H π, Same F0 F → Wd pa F H π → J.stop ds.length H
section
variable {K : PySem.W.Frag} {F0 : Hp}
theorem itok_list {a : Addr} {vs : List V} {ds : List PyData} (h : SqL K F0 a vs) (r : RpA K F0 vs ds) : ItOk K (Itl K a) F0 ds where
  go := fun pa i F H π hi s w => by
    have hi' : i < vs.length := by rw [r.length]; exact hi
    exact ⟨vs, vs[i], w.same.seq (s.seq h), List.getElem?_eq_getElem hi'⟩
  yld := fun pa i F H π x H' d hd s w y => by
    obtain ⟨e, y⟩ := y
    have e' : H' = H := e
    subst e'
    obtain ⟨v, hv, rv⟩ := r.get hd
    have q := (y vs (w.same.seq (s.seq h))).symm.trans hv
    cases q
    exact ⟨F, .refl w, rv.mono s⟩
  stop := fun pa F H π s w => ⟨vs, w.same.seq (s.seq h), by rw [r.length]; exact Nat.le_refl _⟩
theorem itok_tup {a : Addr} {vs : List V} {ds : List PyData} (h : SqT K F0 a vs) (r : RpA K F0 vs ds) : ItOk K (Itt K a) F0 ds where
  go := fun pa i F H π hi s w => by
    have hi' : i < vs.length := by rw [r.length]; exact hi
    exact ⟨vs, vs[i], seqT_mono w.same (seqT_mono s h), List.getElem?_eq_getElem hi'⟩
  yld := fun pa i F H π x H' d hd s w y => by
    obtain ⟨e, y⟩ := y
    have e' : H' = H := e
    subst e'
    obtain ⟨v, hv, rv⟩ := r.get hd
    have q := (y vs (seqT_mono w.same (seqT_mono s h))).symm.trans hv
    cases q
    exact ⟨F, .refl w, rv.mono s⟩
  stop := fun pa F H π s w => ⟨vs, seqT_mono w.same (seqT_mono s h), by rw [r.length]; exact Nat.le_refl _⟩
/-- the ints from lo on, n of them -/
def upTo (lo : Int) (n : Nat) : List PyData := (List.range n).map fun (i : Nat) => PyData.int (lo + (i : Int))
theorem upTo_length (lo : Int) (n : Nat) : (upTo lo n).length = n := by unfold upTo; rw [List.length_map, List.length_range]
theorem itok_range {lo : Int} {n : Nat} : ItOk K (Itr lo n) F0 (upTo lo n) where
  go := fun pa i F H π hi s w => by rw [upTo_length] at hi; exact hi
  yld := fun pa i F H π x H' d hd s w y => by
    obtain ⟨e, y⟩ := y
    have e' : H' = H := e
    subst e'
    have y' : x = .int (lo + i) := y
    subst y'
    unfold upTo at hd
    rw [List.getElem?_map] at hd
    cases q : (List.range n)[i]? with
    | none => rw [q] at hd; cases hd
    | some j =>
      rw [q] at hd
      cases hd
      have ej : j = i := by
        rw [List.getElem?_eq_some_iff] at q
        obtain ⟨_, q⟩ := q
        simpa using q.symm
      subst ej
      exact ⟨F, .refl w, .int _⟩
  stop := fun pa F H π s w => by rw [upTo_length]; exact Nat.le_refl n
/-- the signs of a text -/
def signs (x : Str) : List PyData := x.cps.toList.map fun c => .str ⟨#[c]⟩
theorem itok_str {x : Str} : ItOk K (Its x) F0 (signs x) where
  go := fun pa i F H π hi s w => by
    unfold signs at hi
    rw [List.length_map, Array.length_toList] at hi
    exact hi
  yld := fun pa i F H π v H' d hd s w y => by
    obtain ⟨e, c, hc, ev⟩ := y
    have e' : H' = H := e
    subst e' ev
    unfold signs at hd
    rw [List.getElem?_map, Array.getElem?_toList, hc] at hd
    cases hd
    exact ⟨F, .refl w, .str _⟩
  stop := fun pa F H π s w => by
    unfold signs
    rw [List.length_map, Array.length_toList]
    exact Nat.le_refl _
/-- numbered items -/
def numb (ds : List PyData) : List PyData := ds.zipIdx.map fun p => .tuple [.int (p.2 : Int), p.1]
theorem numb_length (ds : List PyData) : (numb ds).length = ds.length := by unfold numb; rw [List.length_map, List.length_zipIdx]
theorem numb_get {ds : List PyData} {i : Nat} {d : PyData} (h : (numb ds)[i]? = some d) : ∃ x, ds[i]? = some x ∧ d = .tuple [.int (i : Int), x] := by
  unfold numb at h
  rw [List.getElem?_map, List.getElem?_zipIdx] at h
  cases q : ds[i]? with
  | none => rw [q] at h; cases h
  | some x =>
    rw [q] at h
    simp only [Option.map_some, Option.some.injEq] at h
    exact ⟨x, rfl, by rw [← h, Nat.zero_add]⟩
theorem pair_new {pa : Option Addr} {F H : Hp} {π : Pt} {T : Addr} {x y : V} {dx dy : PyData} (w : Wd pa F H π) (nT : H T = none) (rx : Rp K F x dx) (ry : Rp K F y dy) : ∃ F', Post pa F H F' (upd H T (.tup [x, y])) π ∧ Rp K F' (.ref T) (.tuple [dx, dy]) := by
  have a1 := w.add (o := .tup [x, y]) nT
  exact ⟨_, a1, .tup (.inl (.inl upd_same)) (.cons (rx.mono a1.ff) (.cons (ry.mono a1.ff) .nil))⟩
theorem itok_enum {a : Addr} {vs : List V} {ds : List PyData} (h : SqL K F0 a vs) (r : RpA K F0 vs ds) : ItOk K (Ite K a) F0 (numb ds) where
  go := fun pa i F H π hi s w => by
    have hi' : i < vs.length := by rw [r.length, ← numb_length ds]; exact hi
    exact ⟨vs, vs[i], w.same.seq (s.seq h), List.getElem?_eq_getElem hi'⟩
  yld := fun pa i F H π x H' d hd s w y => by
    obtain ⟨T, z, e, nT, e2, y⟩ := y
    subst e e2
    obtain ⟨d', hd', e3⟩ := numb_get hd
    subst e3
    obtain ⟨v, hv, rv⟩ := r.get hd'
    have q := (y vs (w.same.seq (s.seq h))).symm.trans hv
    cases q
    exact pair_new w nT (.int _) (rv.mono s)
  stop := fun pa F H π s w => ⟨vs, w.same.seq (s.seq h), by rw [numb_length, r.length]; exact Nat.le_refl _⟩
theorem itok_enumT {a : Addr} {vs : List V} {ds : List PyData} (h : SqT K F0 a vs) (r : RpA K F0 vs ds) : ItOk K (IteT K a) F0 (numb ds) where
  go := fun pa i F H π hi s w => by
    have hi' : i < vs.length := by rw [r.length, ← numb_length ds]; exact hi
    exact ⟨vs, vs[i], seqT_mono w.same (seqT_mono s h), List.getElem?_eq_getElem hi'⟩
  yld := fun pa i F H π x H' d hd s w y => by
    obtain ⟨T, z, e, nT, e2, y⟩ := y
    subst e e2
    obtain ⟨d', hd', e3⟩ := numb_get hd
    subst e3
    obtain ⟨v, hv, rv⟩ := r.get hd'
    have q := (y vs (seqT_mono w.same (seqT_mono s h))).symm.trans hv
    cases q
    exact pair_new w nT (.int _) (rv.mono s)
  stop := fun pa F H π s w => ⟨vs, seqT_mono w.same (seqT_mono s h), by rw [numb_length, r.length]; exact Nat.le_refl _⟩
/-- pairs, as long as both last -/
def pairs (ds es : List PyData) : List PyData := (ds.zip es).map fun p => .tuple [p.1, p.2]
theorem pairs_get {ds es : List PyData} {i : Nat} {d : PyData} (h : (pairs ds es)[i]? = some d) : ∃ x y, ds[i]? = some x ∧ es[i]? = some y ∧ d = .tuple [x, y] := by
  unfold pairs at h
  rw [List.getElem?_map] at h
  cases q : (ds.zip es)[i]? with
  | none => rw [q] at h; cases h
  | some p =>
    rw [q] at h
    simp only [Option.map_some, Option.some.injEq] at h
    obtain ⟨x, y⟩ := p
    obtain ⟨q1, q2⟩ := List.getElem?_zip_eq_some.mp q
    exact ⟨x, y, q1, q2, h.symm⟩
theorem pairs_length (ds es : List PyData) : (pairs ds es).length = min ds.length es.length := by unfold pairs; rw [List.length_map, List.length_zip]
theorem itok_zip {a b : Addr} {vs ws : List V} {ds es : List PyData} (h : SqL K F0 a vs) (r : RpA K F0 vs ds) (h2 : SqL K F0 b ws) (r2 : RpA K F0 ws es) : ItOk K (Itz K a b) F0 (pairs ds es) where
  go := fun pa i F H π hi s w => by
    rw [pairs_length] at hi
    have hi1 : i < vs.length := by rw [r.length]; omega
    have hi2 : i < ws.length := by rw [r2.length]; omega
    exact ⟨vs, ws, vs[i], ws[i], w.same.seq (s.seq h), w.same.seq (s.seq h2), List.getElem?_eq_getElem hi1, List.getElem?_eq_getElem hi2⟩
  yld := fun pa i F H π x H' d hd s w y => by
    obtain ⟨T, x1, y1, e, nT, e2, z1, z2⟩ := y
    subst e e2
    obtain ⟨d1, d2, g1, g2, e3⟩ := pairs_get hd
    subst e3
    obtain ⟨v, hv, rv⟩ := r.get g1
    obtain ⟨u, hu, ru⟩ := r2.get g2
    have q1 := (z1 vs (w.same.seq (s.seq h))).symm.trans hv
    have q2 := (z2 ws (w.same.seq (s.seq h2))).symm.trans hu
    cases q1
    cases q2
    exact pair_new w nT (rv.mono s) (ru.mono s)
  stop := fun pa F H π s w => ⟨vs, ws, w.same.seq (s.seq h), w.same.seq (s.seq h2), by rw [pairs_length, r.length, r2.length]; omega⟩
theorem itok_zipT {a b : Addr} {vs ws : List V} {ds es : List PyData} (h : SqT K F0 a vs) (r : RpA K F0 vs ds) (h2 : SqT K F0 b ws) (r2 : RpA K F0 ws es) : ItOk K (RZ.ItzT K a b) F0 (pairs ds es) where
  go := fun pa i F H π hi s w => by
    rw [pairs_length] at hi
    have hi1 : i < vs.length := by rw [r.length]; omega
    have hi2 : i < ws.length := by rw [r2.length]; omega
    exact ⟨vs, ws, vs[i], ws[i], seqT_mono w.same (seqT_mono s h), seqT_mono w.same (seqT_mono s h2), List.getElem?_eq_getElem hi1, List.getElem?_eq_getElem hi2⟩
  yld := fun pa i F H π x H' d hd s w y => by
    obtain ⟨T, x1, y1, e, nT, e2, z1, z2⟩ := y
    subst e e2
    obtain ⟨d1, d2, g1, g2, e3⟩ := pairs_get hd
    subst e3
    obtain ⟨v, hv, rv⟩ := r.get g1
    obtain ⟨u, hu, ru⟩ := r2.get g2
    have q1 := (z1 vs (seqT_mono w.same (seqT_mono s h))).symm.trans hv
    have q2 := (z2 ws (seqT_mono w.same (seqT_mono s h2))).symm.trans hu
    cases q1
    cases q2
    exact pair_new w nT (rv.mono s) (ru.mono s)
  stop := fun pa F H π s w => ⟨vs, ws, seqT_mono w.same (seqT_mono s h), seqT_mono w.same (seqT_mono s h2), by rw [pairs_length, r.length, r2.length]; omega⟩
end

/-- the walk of wi gives the data that f tells -/
def EvI (K : PySem.W.Frag) (wi : TI) (f : ML) : Prop := ∀ ρ π ds π', f ρ π = some (ds, π') → ∀ pa H0 F H σ R, Wd pa F H π → StOk K pa H0 F H σ ρ →
  (∀ J F' H', Post pa F H F' H' π' → ItOk K J F' ds → R J H') → wi σ H R
section
variable {K : PySem.W.Frag} {te tb : TE} {f g : MX}
def asL : Option (PyData × Pt) → Option (List PyData × Pt)
  | some (.list ds, π) => some (ds, π)
  | _ => none
def asT : Option (PyData × Pt) → Option (List PyData × Pt)
  | some (.tuple ds, π) => some (ds, π)
  | _ => none
theorem asL_some {o : Option (PyData × Pt)} {ds : List PyData} {π : Pt} (h : asL o = some (ds, π)) : o = some (.list ds, π) := by
  unfold asL at h
  split at h
  · cases h; rfl
  · cases h
theorem asT_some {o : Option (PyData × Pt)} {ds : List PyData} {π : Pt} (h : asT o = some (ds, π)) : o = some (.tuple ds, π) := by
  unfold asT at h
  split at h
  · cases h; rfl
  · cases h
def iL (f : MX) : ML := fun ρ π => asL (f ρ π)
def iT (f : MX) : ML := fun ρ π => asT (f ρ π)
theorem evi_list (e : EvE K te f) : EvI K (iList K te) (iL f) := fun ρ π ds π' hf pa H0 F H σ R w s q => by
  refine e ρ π _ π' (asL_some hf) pa H0 F H σ _ w s fun v F' H' p r => ?_
  obtain ⟨a, vs, rfl, h, r⟩ := r.lst_inv
  exact ⟨a, rfl, ⟨vs, p.wd.same.seq h⟩, q _ F' H' p (itok_list h r)⟩
theorem evi_tup (e : EvE K te f) : EvI K (iTup K te) (iT f) := fun ρ π ds π' hf pa H0 F H σ R w s q => by
  refine e ρ π _ π' (asT_some hf) pa H0 F H σ _ w s fun v F' H' p r => ?_
  obtain ⟨a, vs, rfl, h, r⟩ := r.tup_inv
  exact ⟨a, rfl, ⟨vs, seqT_mono p.wd.same h⟩, q _ F' H' p (itok_tup h r)⟩
def iR1 (f : MX) : ML := fun ρ π => match f ρ π with
  | some (.int j, π') => if -(2 ^ 62) ≤ j ∧ j < 2 ^ 62 then some (upTo 0 j.toNat, π') else none
  | _ => none
theorem evi_range1 (e : EvX K te f) : EvI K (iRng1 (tCons te tNil)) (iR1 f) := fun ρ π ds π' hf pa H0 F H σ R w s q => by
  unfold iR1 at hf
  split at hf
  · rename_i j π1 ef
    split at hf
    · rename_i hj
      cases hf
      exact e ρ π _ π' ef pa H0 F H σ _ w s fun v F' H' p r => ⟨j, by rw [r.int_inv], hj.1, hj.2, q _ F' H' p itok_range⟩
    · cases hf
  · cases hf
def iR2 (f g : MX) : ML := fun ρ π => match f ρ π with
  | some (.int i, π1) => (match g ρ π1 with
    | some (.int j, π') => if (-(2 ^ 62) ≤ i ∧ i < 2 ^ 62) ∧ (-(2 ^ 62) ≤ j ∧ j < 2 ^ 62) then some (upTo i (j - i).toNat, π') else none
    | _ => none)
  | _ => none
theorem evi_range2 (e : EvX K te f) (e2 : EvX K tb g) : EvI K (iRng2 (tCons te (tCons tb tNil))) (iR2 f g) := fun ρ π ds π' hf pa H0 F H σ R w s q => by
  unfold iR2 at hf
  split at hf
  · rename_i i π1 ef
    split at hf
    · rename_i j π2 eg
      split at hf
      · rename_i hj
        cases hf
        refine e ρ π _ π1 ef pa H0 F H σ _ w s fun v F' H' p r => ?_
        refine e2 ρ π1 _ _ eg pa H0 F' H' σ _ p.wd (s.post w p) fun u F2 H2 p2 r2 => ?_
        exact ⟨i, j, by rw [r.int_inv, r2.int_inv], ⟨hj.1.1, hj.1.2, hj.2.1, hj.2.2⟩, q _ F2 H2 (p.trans w p2) itok_range⟩
      · cases hf
    · cases hf
  · cases hf
def iS (f : MX) : ML := fun ρ π => match f ρ π with
  | some (.str x, π') => some (signs x, π')
  | _ => none
theorem evi_str (e : EvX K te f) : EvI K (iStr te) (iS f) := fun ρ π ds π' hf pa H0 F H σ R w s q => by
  unfold iS at hf
  split at hf
  · rename_i x π1 ef
    cases hf
    exact e ρ π _ π' ef pa H0 F H σ _ w s fun v F' H' p r => ⟨x, r.str_inv, q _ F' H' p itok_str⟩
  · cases hf
def iE (f : MX) : ML := fun ρ π => match f ρ π with
  | some (.list ds, π') => some (numb ds, π')
  | some (.tuple ds, π') => some (numb ds, π')
  | _ => none
theorem evi_enum (e : EvE K te f) : EvI K (iEnumA K (tCons te tNil)) (iE f) := fun ρ π ds π' hf pa H0 F H σ R w s q => by
  unfold iE at hf
  split at hf
  · rename_i ds π1 ef
    cases hf
    refine e ρ π _ π' ef pa H0 F H σ _ w s fun v F' H' p r => ?_
    obtain ⟨a, vs, rfl, h, r⟩ := r.lst_inv
    exact ⟨a, vs, rfl, .inl ⟨p.wd.same.seq h, q _ F' H' p (itok_enum h r)⟩⟩
  · rename_i ds π1 ef
    cases hf
    refine e ρ π _ π' ef pa H0 F H σ _ w s fun v F' H' p r => ?_
    obtain ⟨a, vs, rfl, h, r⟩ := r.tup_inv
    exact ⟨a, vs, rfl, .inr ⟨seqT_mono p.wd.same h, q _ F' H' p (itok_enumT h r)⟩⟩
  · cases hf
def iZ (f g : MX) : ML := fun ρ π => match f ρ π with
  | some (.list ds, π1) => (asL (g ρ π1)).map fun (es, π2) => (pairs ds es, π2)
  | some (.tuple ds, π1) => (asT (g ρ π1)).map fun (es, π2) => (pairs ds es, π2)
  | _ => none
theorem evi_zip (e : EvE K te f) (e2 : EvE K tb g) : EvI K (RZ.iZipA K (tCons te (tCons tb tNil))) (iZ f g) := fun ρ π ds π' hf pa H0 F H σ R w s q => by
  unfold iZ at hf
  split at hf
  · rename_i ds π1 ef
    cases eg : asL (g ρ π1) with
    | none => rw [eg] at hf; cases hf
    | some o =>
      obtain ⟨es, π2⟩ := o
      rw [eg] at hf
      cases hf
      refine e ρ π _ π1 ef pa H0 F H σ _ w s fun v F' H' p r => ?_
      refine e2 ρ π1 _ _ (asL_some eg) pa H0 F' H' σ _ p.wd (s.post w p) fun u F2 H2 p2 r2 => ?_
      obtain ⟨a, vs, rfl, h, r⟩ := (r.mono p2.ff).lst_inv
      obtain ⟨b, ws, rfl, h2, r2⟩ := r2.lst_inv
      exact ⟨a, b, vs, ws, rfl, .inl ⟨p2.wd.same.seq h, p2.wd.same.seq h2, q _ F2 H2 (p.trans w p2) (itok_zip h r h2 r2)⟩⟩
  · rename_i ds π1 ef
    cases eg : asT (g ρ π1) with
    | none => rw [eg] at hf; cases hf
    | some o =>
      obtain ⟨es, π2⟩ := o
      rw [eg] at hf
      cases hf
      refine e ρ π _ π1 ef pa H0 F H σ _ w s fun v F' H' p r => ?_
      refine e2 ρ π1 _ _ (asT_some eg) pa H0 F' H' σ _ p.wd (s.post w p) fun u F2 H2 p2 r2 => ?_
      obtain ⟨a, vs, rfl, h, r⟩ := (r.mono p2.ff).tup_inv
      obtain ⟨b, ws, rfl, h2, r2⟩ := r2.tup_inv
      exact ⟨a, b, vs, ws, rfl, .inr ⟨seqT_mono p2.wd.same h, seqT_mono p2.wd.same h2, q _ F2 H2 (p.trans w p2) (itok_zipT h r h2 r2)⟩⟩
  · cases hf
end
end DL

set_option maxHeartbeats 1000000
namespace DL
open PySem PySem.Spec PyProof.Rows L2
set_option autoImplicit false
section
variable {X : Cx} {K : PySem.W.Frag}

/-! #### slices -/
def MO := Ev → Pt → Option (Option Int × Pt)
def EvO (K : PySem.W.Frag) (t : TO) (f : MO) : Prop := ∀ ρ π o π', f ρ π = some (o, π') → ∀ pa H0 F H σ Q, Wd pa F H π → StOk K pa H0 F H σ ρ → (∀ F' H', Post pa F H F' H' π' → Q o H') → t σ H Q
def oNone : MO := fun _ π => some (none, π)
def oSome (f : MX) : MO := fun ρ π => match f ρ π with
  | some (.int i, π') => some (some i, π')
  | _ => none
theorem evo_none : EvO K tNoPart oNone := fun ρ π o π' hf pa H0 F H σ Q w s q => by
  cases hf; exact q F H (.refl w)
theorem evo_some {te : TE} {f : MX} (e : EvX K te f) : EvO K (tPart te) (oSome f) := fun ρ π o π' hf pa H0 F H σ Q w s q => by
  unfold oSome at hf
  split at hf
  · rename_i i π1 ef
    cases hf
    exact e ρ π _ π' ef pa H0 F H σ _ w s fun v F' H' p r => ⟨i, r.int_inv, q F' H' p⟩
  · cases hf
/-- a list's slice: a new list -/
def fSlL (f : MX) (lo hi : MO) : ML := fun ρ π => (asL (f ρ π)).bind fun (xs, π1) => (lo ρ π1).bind fun (l, π2) => (hi ρ π2).map fun (u, π3) => (cutD xs l u, π3)
theorem ev_slL {te : TE} {f : MX} {tl th : TO} {lo hi : MO} (e : EvX K te f) (el : EvO K tl lo) (eh : EvO K th hi) : EvN K (tSl (rSlL K) te tl th) (fSlL f lo hi) := fun ρ π ds π' hf pa H0 F H σ Q w s q => by
  unfold fSlL at hf
  cases e1 : asL (f ρ π) with
  | none => rw [e1] at hf; cases hf
  | some o1 =>
    obtain ⟨xs, π1⟩ := o1
    rw [e1] at hf
    simp only [Option.bind_some] at hf
    cases e2 : lo ρ π1 with
    | none => rw [e2] at hf; cases hf
    | some o2 =>
      obtain ⟨l, π2⟩ := o2
      rw [e2] at hf
      simp only [Option.bind_some] at hf
      cases e3 : hi ρ π2 with
      | none => rw [e3] at hf; cases hf
      | some o3 =>
        obtain ⟨u, π3⟩ := o3
        rw [e3] at hf
        cases hf
        refine e ρ π _ π1 (asL_some e1) pa H0 F H σ _ w s fun v F1 H1 p1 r1 => ?_
        refine el ρ π1 l π2 e2 pa H0 F1 H1 σ _ p1.wd (s.post w p1) fun F2 H2 p2 => ?_
        have p12 := p1.trans w p2
        refine eh ρ π2 u _ e3 pa H0 F2 H2 σ _ p2.wd (s.post w p12) fun F3 H3 p3 => ?_
        have p13 := p12.trans w p3
        obtain ⟨a, vs, rfl, h, r⟩ := ((r1.post p1.wd p2).post p2.wd p3).lst_inv p3.wd
        refine ⟨a, vs, rfl, h, fun p np => ?_⟩
        exact q p _ F3 _ (p13.trans w (p3.wd.addM np)) (p13.fresh np) (p3.wd.free np) (p3.wd.pa_ne np) upd_same (r.cut l u)
/-- a tuple's, a text's -/
def fSlA (f : MX) (lo hi : MO) : MX := fun ρ π => (f ρ π).bind fun (x, π1) => (lo ρ π1).bind fun (l, π2) => (hi ρ π2).bind fun (u, π3) => match x with
  | .tuple xs => some (.tuple (cutD xs l u), π3)
  | .str z => if z.length ≤ sizeLine then some (.str (cutS z l u), π3) else none
  | _ => none
theorem cut_all {α : Type} (xs : List α) (n m : Nat) (h : n = 0) (h2 : m = xs.length) : (xs.drop n).take (m - n) = xs := by
  subst h
  rw [List.drop_zero, Nat.sub_zero, h2, List.take_length]
theorem ev_slA {te : TE} {f : MX} {tl th : TO} {lo hi : MO} (e : EvX K te f) (el : EvO K tl lo) (eh : EvO K th hi) : EvE K (tSl (fun x lo hi H Q => rSlA K x lo hi H Q ∨ rSlS x lo hi H Q) te tl th) (fSlA f lo hi) := fun ρ π ds π' hf pa H0 F H σ Q w s q => by
  unfold fSlA at hf
  cases e1 : f ρ π with
  | none => rw [e1] at hf; cases hf
  | some o1 =>
    obtain ⟨x, π1⟩ := o1
    rw [e1] at hf
    simp only [Option.bind_some] at hf
    cases e2 : lo ρ π1 with
    | none => rw [e2] at hf; cases hf
    | some o2 =>
      obtain ⟨l, π2⟩ := o2
      rw [e2] at hf
      simp only [Option.bind_some] at hf
      cases e3 : hi ρ π2 with
      | none => rw [e3] at hf; cases hf
      | some o3 =>
        obtain ⟨u, π3⟩ := o3
        rw [e3] at hf
        simp only [Option.bind_some] at hf
        refine e ρ π _ π1 e1 pa H0 F H σ _ w s fun v F1 H1 p1 r1 => ?_
        refine el ρ π1 l π2 e2 pa H0 F1 H1 σ _ p1.wd (s.post w p1) fun F2 H2 p2 => ?_
        have p12 := p1.trans w p2
        refine eh ρ π2 u _ e3 pa H0 F2 H2 σ _ p2.wd (s.post w p12) fun F3 H3 p3 => ?_
        have p13 := p12.trans w p3
        have rr := (r1.post p1.wd p2).post p2.wd p3
        split at hf
        · rename_i xs
          cases hf
          obtain ⟨a, vs, rfl, h, r, hF⟩ := rr.tup_inv p3.wd
          refine .inl ⟨a, vs, rfl, h, fun z => ?_, fun z p np => ?_⟩
          · have ec : cutD xs l u = xs := by
              unfold cutD
              rw [r.length] at z
              exact cut_all xs _ _ z.1 z.2
            rw [ec] at q
            exact q _ F3 H3 p13 (.tup hF r)
          · have a1 := p3.wd.add (o := .tup (cutV vs l u)) np
            exact q (.ref p) _ _ (p13.trans w a1) (.tup (.inl (.inl upd_same)) ((r.cut l u).mono a1.ff))
        · split at hf
          · rename_i z hz
            cases hf
            exact .inr ⟨z, rr.str_inv, hz, q _ F3 H3 p13 (.str _)⟩
          · cases hf
        · cases hf
/-- t[::-1] of a tuple -/
def rRevT (K : PySem.W.Frag) : V → Hp → VK → Prop := fun x H Q => ∃ a xs, x = .ref a ∧ SqT K H a xs ∧ ∀ p, H p = none → Q (.ref p) (upd H p (.tup xs.reverse))

/-! #### built-ins -/
def gAbs : PyData → Option PyData
  | .int i => some (.int (if i < 0 then -i else i))
  | _ => none
theorem sim_abs : SimC1 K (fun xs H Q => ∃ i, xs = [.int i] ∧ Q (.int (if i < 0 then -i else i)) H) gAbs := by
  intro pa F H π x dx d Q w rx e q
  unfold gAbs at e
  split at e
  · cases e; exact ⟨_, by rw [rx.int_inv], q _ F H (.refl w) (.int _)⟩
  · cases e
def gInt : PyData → Option PyData
  | .int i => some (.int i)
  | .bool b => some (.int (b2 b))
  | _ => none
theorem sim_int : SimC1 K (fun xs H Q => (∃ i, xs = [.int i] ∧ Q (.int i) H) ∨ ∃ k, xs = [.bl k] ∧ Q (.int (if k then 1 else 0)) H) gInt := by
  intro pa F H π x dx d Q w rx e q
  unfold gInt at e
  split at e
  · cases e; exact .inl ⟨_, by rw [rx.int_inv], q _ F H (.refl w) (.int _)⟩
  · cases e; exact .inr ⟨_, by rw [rx.bool_inv], q _ F H (.refl w) (.int _)⟩
  · cases e
def gMax2 : PyData → PyData → Option PyData
  | .int i, .int j => some (.int (if j > i then j else i))
  | _, _ => none
def gMin2 : PyData → PyData → Option PyData
  | .int i, .int j => some (.int (if j < i then j else i))
  | _, _ => none
theorem sim_max2 : SimC2 K (fun xs H Q => ∃ i j, xs = [.int i, .int j] ∧ Q (.int (if j > i then j else i)) H) gMax2 := by
  intro pa F H π x y dx dy d Q w rx ry e q
  unfold gMax2 at e
  split at e
  · cases e; exact ⟨_, _, by rw [rx.int_inv, ry.int_inv], q _ F H (.refl w) (.int _)⟩
  · cases e
theorem sim_min2 : SimC2 K (fun xs H Q => ∃ i j, xs = [.int i, .int j] ∧ Q (.int (if j < i then j else i)) H) gMin2 := by
  intro pa F H π x y dx dy d Q w rx ry e q
  unfold gMin2 at e
  split at e
  · cases e; exact ⟨_, _, by rw [rx.int_inv, ry.int_inv], q _ F H (.refl w) (.int _)⟩
  · cases e
/-- divmod(i, j): a new pair -/
def gDivmod : PyData → PyData → Option PyData
  | .int i, .int j => if cDiv i j = true then some (.tuple [.int (i / j), .int (i % j)]) else none
  | _, _ => none
theorem sim_divmod : SimC2 K (fun xs H Q => ∃ i j, xs = [.int i, .int j] ∧ CDiv i j ∧ ∀ p, H p = none → Q (.ref p) (upd H p (.tup [.int (i / j), .int (i % j)]))) gDivmod := by
  intro pa F H π x y dx dy d Q w rx ry e q
  unfold gDivmod at e
  split at e
  · split at e
    · rename_i i j hc
      cases e
      refine ⟨i, j, by rw [rx.int_inv, ry.int_inv], cDiv_ok i j hc, fun p np => ?_⟩
      have a1 := w.add (o := .tup [.int (i / j), .int (i % j)]) np
      exact q (.ref p) _ _ a1 (.tup (.inl (.inl upd_same)) (.cons (.int _) (.cons (.int _) .nil)))
    · cases e
  · cases e

/-- all ints, all bools -/
def ints? : List PyData → Option (List Int)
  | [] => some []
  | .int i :: r => (ints? r).map (i :: ·)
  | _ :: _ => none
theorem ints?_some : ∀ {ds : List PyData} {ns : List Int}, ints? ds = some ns → ds = ns.map PyData.int
  | [], ns, h => by cases h; rfl
  | .int i :: r, ns, h => by
    unfold ints? at h
    cases q : ints? r with
    | none => rw [q] at h; cases h
    | some ms =>
      rw [q] at h
      cases h
      rw [ints?_some q]
      rfl
  | .none :: _, _, h => by cases h
  | .bool _ :: _, _, h => by cases h
  | .str _ :: _, _, h => by cases h
  | .list _ :: _, _, h => by cases h
  | .tuple _ :: _, _, h => by cases h
  | .dict _ :: _, _, h => by cases h
theorem ints?_map : ∀ ns : List Int, ints? (ns.map PyData.int) = some ns
  | [] => rfl
  | n :: ns => by
    show (ints? (ns.map PyData.int)).map (n :: ·) = _
    rw [ints?_map ns]
    rfl
def bools? : List PyData → Option (List Bool)
  | [] => some []
  | .bool i :: r => (bools? r).map (i :: ·)
  | _ :: _ => none
theorem bools?_some : ∀ {ds : List PyData} {ns : List Bool}, bools? ds = some ns → ds = ns.map PyData.bool
  | [], ns, h => by cases h; rfl
  | .bool i :: r, ns, h => by
    unfold bools? at h
    cases q : bools? r with
    | none => rw [q] at h; cases h
    | some ms =>
      rw [q] at h
      cases h
      rw [bools?_some q]
      rfl
  | .none :: _, _, h => by cases h
  | .int _ :: _, _, h => by cases h
  | .str _ :: _, _, h => by cases h
  | .list _ :: _, _, h => by cases h
  | .tuple _ :: _, _, h => by cases h
  | .dict _ :: _, _, h => by cases h
theorem bools?_map : ∀ ns : List Bool, bools? (ns.map PyData.bool) = some ns
  | [] => rfl
  | n :: ns => by
    show (bools? (ns.map PyData.bool)).map (n :: ·) = _
    rw [bools?_map ns]
    rfl
def gAll : PyData → Option PyData
  | .list ds => (bools? ds).map fun bs => .bool (bs.all id)
  | _ => none
def gAny : PyData → Option PyData
  | .list ds => (bools? ds).map fun bs => .bool (bs.any id)
  | _ => none
theorem RpX.bools {pa : Option Addr} {F H : Hp} {π : Pt} {x : V} {ds : List PyData} {bs : List Bool} (w : Wd pa F H π) (rx : RpX K pa F H x (.list ds)) (e : bools? ds = some bs) : ∃ a, x = .ref a ∧ SqL K H a (bs.map V.bl) := by
  obtain ⟨a, vs, rfl, h, r⟩ := rx.lst_inv w
  rw [bools?_some e] at r
  rw [r.bool_inv] at h
  exact ⟨a, rfl, h⟩
theorem RpX.ints {pa : Option Addr} {F H : Hp} {π : Pt} {x : V} {ds : List PyData} {ns : List Int} (w : Wd pa F H π) (rx : RpX K pa F H x (.list ds)) (e : ints? ds = some ns) : ∃ a, x = .ref a ∧ SqL K H a (ns.map V.int) := by
  obtain ⟨a, vs, rfl, h, r⟩ := rx.lst_inv w
  rw [ints?_some e] at r
  rw [r.int_inv] at h
  exact ⟨a, rfl, h⟩
theorem sim_all : SimC1 K (rAll K) gAll := by
  intro pa F H π x dx d Q w rx e q
  unfold gAll at e
  split at e
  · rename_i ds
    cases e1 : bools? ds with
    | none => rw [e1] at e; cases e
    | some bs =>
      rw [e1] at e
      cases e
      obtain ⟨a, rfl, h⟩ := rx.bools w e1
      exact ⟨a, bs, rfl, h, q _ F H (.refl w) (.bl _)⟩
  · cases e
theorem sim_any : SimC1 K (rAny K) gAny := by
  intro pa F H π x dx d Q w rx e q
  unfold gAny at e
  split at e
  · rename_i ds
    cases e1 : bools? ds with
    | none => rw [e1] at e; cases e
    | some bs =>
      rw [e1] at e
      cases e
      obtain ⟨a, rfl, h⟩ := rx.bools w e1
      exact ⟨a, bs, rfl, h, q _ F H (.refl w) (.bl _)⟩
  · cases e
def gSum : PyData → Option PyData
  | .list ds => (ints? ds).map fun bs => .int bs.sum
  | _ => none
theorem sim_sum : SimC1 K (rSum K) gSum := by
  intro pa F H π x dx d Q w rx e q
  unfold gSum at e
  split at e
  · rename_i ds
    cases e1 : ints? ds with
    | none => rw [e1] at e; cases e
    | some bs =>
      rw [e1] at e
      cases e
      obtain ⟨a, rfl, h⟩ := rx.ints w e1
      exact ⟨a, bs, rfl, h, q _ F H (.refl w) (.int _)⟩
  · cases e

/-! #### sorted -/
def insI (x : Int) : List Int → List Int
  | [] => [x]
  | y :: r => if x ≤ y then x :: y :: r else y :: insI x r
def srtI : List Int → List Int
  | [] => []
  | x :: r => insI x (srtI r)
theorem insI_perm (x : Int) : ∀ l : List Int, (insI x l).Perm (x :: l)
  | [] => .refl _
  | y :: r => by
    unfold insI
    split
    · exact .refl _
    · exact ((insI_perm x r).cons y).trans (.swap x y r)
theorem srtI_perm : ∀ l : List Int, (srtI l).Perm l
  | [] => .refl _
  | x :: r => (insI_perm x (srtI r)).trans ((srtI_perm r).cons x)
theorem insI_sorted (x : Int) : ∀ l : List Int, l.Pairwise (· ≤ ·) → (insI x l).Pairwise (· ≤ ·)
  | [], _ => by unfold insI; exact List.pairwise_singleton _ _
  | y :: r, h => by
    obtain ⟨h1, h2⟩ := List.pairwise_cons.mp h
    unfold insI
    split
    · rename_i hxy
      refine List.pairwise_cons.mpr ⟨fun z hz => ?_, h⟩
      rcases List.mem_cons.mp hz with e | hz
      · rw [e]; exact hxy
      · exact Int.le_trans hxy (h1 z hz)
    · rename_i hxy
      refine List.pairwise_cons.mpr ⟨fun z hz => ?_, insI_sorted x r h2⟩
      rcases List.mem_cons.mp ((insI_perm x r).mem_iff.mp hz) with e | hz
      · rw [e]; omega
      · exact h1 z hz
theorem srtI_sorted : ∀ l : List Int, (srtI l).Pairwise (· ≤ ·)
  | [] => .nil
  | x :: r => insI_sorted x _ (srtI_sorted r)
theorem sorted_eq : ∀ {l m : List Int}, l.Perm m → l.Pairwise (· ≤ ·) → m.Pairwise (· ≤ ·) → l = m
  | [], m, p, _, _ => (List.perm_nil.mp p.symm).symm
  | x :: l, [], p, _, _ => nomatch (List.perm_nil.mp p)
  | x :: l, y :: m, p, h, k => by
    obtain ⟨h1, h2⟩ := List.pairwise_cons.mp h
    obtain ⟨k1, k2⟩ := List.pairwise_cons.mp k
    have a : x ≤ y := by
      rcases List.mem_cons.mp (p.mem_iff.mpr List.mem_cons_self) with e | z
      · rw [e]; exact Int.le_refl _
      · exact h1 y z
    have b : y ≤ x := by
      rcases List.mem_cons.mp (p.mem_iff.mp List.mem_cons_self) with e | z
      · rw [e]; exact Int.le_refl _
      · exact k1 x z
    have e : x = y := by omega
    subst e
    rw [sorted_eq p.cons_inv h2 k2]
def gSortI : PyData → Option (List PyData)
  | .list ds => (ints? ds).map fun ns => (srtI ns).map PyData.int
  | _ => none
theorem sim_sortI : SimC1N K (rSortedI K) gSortI := by
  intro pa F H π x dx d Q w rx e q
  unfold gSortI at e
  split at e
  · rename_i ds
    cases e1 : ints? ds with
    | none => rw [e1] at e; cases e
    | some ns =>
      rw [e1] at e
      cases e
      obtain ⟨a, rfl, h⟩ := rx.ints w e1
      refine ⟨a, ns, rfl, h, fun ns' p pm so np => ?_⟩
      have en : ns' = srtI ns := sorted_eq (pm.trans (srtI_perm ns).symm) so (srtI_sorted ns)
      subst en
      exact q p _ F _ (w.addM np) np (w.free np) (w.pa_ne np) upd_same (RpA.ints _)
  · cases e

/-! #### list(x), tuple(x) -/
def gList : PyData → Option (List PyData)
  | .list ds => some ds
  | .tuple ds => some ds
  | _ => none
theorem sim_list : SimC1N K (fun xs H Q => ∃ p ys, xs = [.ref p] ∧ (SqL K H p ys ∨ SqT K H p ys) ∧ ∀ l, H l = none → Q (.ref l) (upd H l (.lst ys))) gList := by
  intro pa F H π x dx d Q w rx e q
  unfold gList at e
  split at e
  · cases e
    obtain ⟨a, vs, rfl, h, r⟩ := rx.lst_inv w
    exact ⟨a, vs, rfl, .inl h, fun p np => q p _ F _ (w.addM np) np (w.free np) (w.pa_ne np) upd_same r⟩
  · cases e
    obtain ⟨a, vs, rfl, h, r, _⟩ := rx.tup_inv w
    exact ⟨a, vs, rfl, .inr h, fun p np => q p _ F _ (w.addM np) np (w.free np) (w.pa_ne np) upd_same r⟩
  · cases e
def gTuple : PyData → Option PyData
  | .list ds => some (.tuple ds)
  | .tuple ds => some (.tuple ds)
  | _ => none
theorem sim_tuple : SimC1 K (fun xs H Q => ∃ p ys, xs = [.ref p] ∧ ((SqL K H p ys ∧ ∀ l, H l = none → Q (.ref l) (upd H l (.tup ys))) ∨ (SqT K H p ys ∧ Q (.ref p) H))) gTuple := by
  intro pa F H π x dx d Q w rx e q
  unfold gTuple at e
  split at e
  · cases e
    obtain ⟨a, vs, rfl, h, r⟩ := rx.lst_inv w
    refine ⟨a, vs, rfl, .inl ⟨h, fun p np => ?_⟩⟩
    have a1 := w.add (o := .tup vs) np
    exact q (.ref p) _ _ a1 (.tup (.inl (.inl upd_same)) (r.mono a1.ff))
  · cases e
    obtain ⟨a, vs, rfl, h, r, hF⟩ := rx.tup_inv w
    exact ⟨a, vs, rfl, .inr ⟨h, q _ F H (.refl w) (.tup hF r)⟩⟩
  · cases e

/-! #### sorted(set(t)) -/
def rSetT (w : World) (K : PySem.W.Frag) : List V → Hp → VK → Prop := fun xs H Q => ∃ (a : Addr) (ns : List Int), xs = [.ref a] ∧ (SqT K H a (ns.map V.int)) ∧ ns.length + 1 < scanBound ∧
  ∀ p c, H p = none → c ≤ ns.length → Q (.ref p) (upd H p (SetO w p (fun j => decide (j ∈ ns)) c))
end
end DL

set_option maxHeartbeats 2000000
namespace DL
open PySem PySem.Spec PyProof.Rows L2
set_option autoImplicit false

/-! #### t[::-1] -/
section
variable {prog : Program} {w : World} {A : Around} {E : Value → Shared → Prop} {s : Shared}
theorem sliceApplied_rev {sl : Addr} {vs : Value} {n : Nat} {Q : Int × Int × Nat → Shared → Prop} (hs : s.heap.IsSliceOf sl .none .none vs) (ps : IsPart vs (some (-1)))
    (h : Q ((n : Int) - 1, -1, n) s) : wpAny (model prog w) A (Builtin.Slice.sliceApplied (.ref sl) (pure (n : Int))) Q E s := by
  obtain ⟨os, hos, hcs, hds⟩ := id hs
  cases ps with
  | int i t =>
    unfold Builtin.Slice.sliceApplied Builtin.Slice.sliceFields
    refine wpAny_bind (wpAny_bind (wpAny_field hos hds (x := .none) rfl (wpAny_bind (wpAny_field hos hds (x := .none) rfl (wpAny_bind (wpAny_field hos hds (x := .int (-1) t) rfl (wpAny_pure ?_)))))))
    refine wpAny_bind (slicePart_int ?_)
    show wpAny _ _ (if ((-1 : Int) == 0) = true then _ else _) _ _ s
    rw [if_neg (by decide)]
    refine wpAny_bind (slicePart_none (wpAny_bind (slicePart_none (wpAny_bind (wpAny_pure ?_)))))
    have e : Builtin.Slice.slicePlaces ((n : Int) - 1) (-1) (-1) = n := by
      unfold Builtin.Slice.slicePlaces
      rw [if_neg (by decide)]
      by_cases hn : (n : Int) - 1 > -1
      · rw [if_pos hn]
        have e1 : ((n : Int) - 1 - -1 - 1) / (- -1) + 1 = n := by
          rw [show (- -1 : Int) = 1 by decide, Int.ediv_one]
          omega
        rw [e1]
        omega
      · rw [if_neg hn]
        have : n = 0 := by omega
        subst this
        rfl
    show wpAny _ _ (pure ((n : Int) - 1, (-1 : Int), Builtin.Slice.slicePlaces ((n : Int) - 1) (-1) (-1))) _ _ s
    rw [e]
    exact wpAny_pure h
theorem fm_congr {α β : Type} {f g : α → Option β} : ∀ l : List α, (∀ x ∈ l, f x = g x) → l.filterMap f = l.filterMap g
  | [], _ => rfl
  | x :: l, h => by
    rw [List.filterMap_cons, List.filterMap_cons, h x List.mem_cons_self, fm_congr l fun y hy => h y (List.mem_cons_of_mem _ hy)]
theorem pick_rev (xs : Array Value) : ((List.range xs.size).filterMap fun (m : Nat) => xs[((xs.size : Int) - 1 + (m : Int) * (-1)).toNat]?).toArray = xs.toList.reverse.toArray := by
  have e : (List.range xs.size).filterMap (fun (m : Nat) => xs[((xs.size : Int) - 1 + (m : Int) * (-1)).toNat]?) = ((List.range xs.size).map fun k => xs.size - 1 - k).filterMap (xs[·]?) := by
    rw [List.filterMap_map]
    refine fm_congr _ fun m hm => ?_
    have hm' := List.mem_range.mp hm
    show xs[((xs.size : Int) - 1 + (m : Int) * (-1)).toNat]? = xs[xs.size - 1 - m]?
    have : ((xs.size : Int) - 1 + (m : Int) * (-1)).toNat = xs.size - 1 - m := by omega
    rw [this]
  rw [e, PySem.W.krv_range, List.filterMap_reverse, PySem.W.krv_all]
theorem getItem_tuple_rev {t sl : Addr} {items : Array Value} {vs : Value} {Q : Value → Shared → Prop} (ht : IsTup s.heap t items) (hs : s.heap.IsSliceOf sl .none .none vs) (ps : IsPart vs (some (-1)))
    (h : Q (.ref s.heap.objs.size) { s with heap := s.heap.push { cls := .type "tuple", data := .seq items.toList.reverse.toArray } })
    (hsz : items.size ≤ sizeLine) : wpAny (model prog w) A (getItem (.ref t) (.ref sl)) Q E s := by
  have hrev : sizeOk (.seq items.toList.reverse.toArray) := by
    show items.toList.reverse.toArray.size ≤ sizeLine
    rw [List.size_toArray, List.length_reverse, Array.length_toList]
    exact hsz
  obtain ⟨os, hos, hcs, hds⟩ := id hs
  have hTs : s.TypeIs (.ref sl) "slice" := ⟨os, hos, hcs⟩
  unfold getItem
  try with_reducible refine wpAny_holding ?_
  first | refine wpAny_bind (wpAny_pure ?_) | skip
  refine wpAny_bind (wpAny_sequenceKey ht.typeIs (by decide) ?_)
  refine wpAny_bind (wpAny_callSpecial?_slot (name := Str.ofString "__getitem__") ht.typeIs PyProof.Rows.slot_tuple_getitem
    (wpAny_call_entry PyProof.Rows.slot_tuple_getitem ht.typeIs PyProof.Rows.entry_tuple_getitem ?_ (PyProof.Rows.args_tuple_getitem _ _)))
  show wpAny _ _ (Builtin.Tuple.tupleItemsOf (.ref t) >>= _) _ _ s
  refine wpAny_bind (PyProof.Rows.tupleItemsOf_ ht (wpAny_bind (wpAny_typeOf hTs ?_)))
  rw [if_pos (by decide)]
  refine wpAny_bind (sliceApplied_rev hs ps ?_)
  have hno : ¬ ((((items.size : Int) - 1) == 0 && (-1 : Int) == 1 && items.size == items.size) = true) := by
    intro q
    rw [Bool.and_eq_true, Bool.and_eq_true] at q
    exact absurd q.1.2 (by decide)
  show wpAny _ _ (if (((items.size : Int) - 1) == 0 && (-1 : Int) == 1 && items.size == items.size) = true then _ else _) _ _ s
  rw [if_neg hno, pick_rev]
  first
    | exact wpAny_bind (m := Builtin.Tuple.tupleExact _) (wpAny_newObj_type (wpAny_pure ⟨_, rfl, wpAny_pure h⟩) hrev)
    | exact wpAny_bind (m := Builtin.Tuple.tupleExact _) (wpAny_newObj_type (wpAny_bind (wpAny_pure (wpAny_pure ⟨_, rfl, wpAny_pure h⟩))) hrev)
    | exact wpAny_bind (wpAny_bind (m := Builtin.Tuple.tupleExact _) (wpAny_newObj_type (wpAny_pure (wpAny_pure ⟨_, rfl, wpAny_pure h⟩)) hrev))
    | exact wpAny_bind (wpAny_bind (m := Builtin.Tuple.tupleExact _) (wpAny_newObj_type (wpAny_pure ⟨_, rfl, wpAny_pure h⟩) hrev))
end
section
variable {X : Cx} {K : PySem.W.Frag}
def tRevT (K : PySem.W.Frag) (te : TE) : TE := fun σ H Q => te σ H fun x H1 => ∃ a xs, x = .ref a ∧ SqT K H1 a xs ∧ ∀ p, H1 p = none → Q (.ref p) (upd H1 p (.tup xs.reverse))
theorem pe_revT {e : Expr} {te : TE} {k : Nat} {p1 p2 p3 pos : Pos} (he : PE X e te) : PE X (.Subscript e (.Slice none none (some (.UnaryOp .USub (.Constant (.int 1) k p1) p2)) p3) pos) (tRevT X.K te) := by
  refine ⟨fun pins s σ H Q I h => ?_⟩
  refine Subscript_ (thn (he.run pins s σ H _ I h) fun v s1 ⟨x, H1, I1, r1, q1⟩ => ?_)
  obtain ⟨a, xs, ex, hx, q⟩ := q1
  subst ex
  cases r1
  have hst : PO X (some (.UnaryOp .USub (.Constant (.int 1) k p1) p2)) (tPart (tUn (rU fun i => .int (-i)) (tC (.int 1)))) := po_some (pe_un un_neg pe_int)
  refine wpAny_Slice (thn (po_none.run pins s1 σ H1 (fun o H2 => o = none ∧ H2 = H1) I1 ⟨rfl, rfl⟩) fun vl s2 ⟨l, H2, I2, pl, el, e2⟩ => ?_)
  subst el e2
  cases pl
  refine thn (po_none.run pins s2 σ H2 (fun o H3 => o = none ∧ H3 = H2) I2 ⟨rfl, rfl⟩) fun vu s3 ⟨u, H3, I3, pu, eu, e3⟩ => ?_
  subst eu e3
  cases pu
  refine thn (hst.run pins s3 σ H3 (fun o H4 => o = some (-1) ∧ H4 = H3) I3 ⟨1, rfl, -1, rfl, rfl, rfl⟩) fun vs s4 ⟨o, H4, I4, ps, eo, e4⟩ => ?_
  subst eo e4
  have I5 : Inv X pins σ H4 { s4 with heap := s4.heap.push { cls := .type "slice", data := .fields #[.none, .none, vs] } } := I4.kept (t' := s4.toks) fun b ob q => Heap.get?_push_of_some _ q
  obtain ⟨its, r, ht, hz⟩ := I5.tuple hx
  have hlen := r.length
  show wpAny (model X.prog X.w) X.A (subscriptTail e (.Slice none none (some (.UnaryOp .USub (.Constant (.int 1) k p1) p2)) p3) (.ref a) (.ref s4.heap.objs.size)) (EP X pins σ Q) X.xe { s4 with heap := s4.heap.push { cls := .type "slice", data := .fields #[.none, .none, vs] } }
  refine tail_any (ops := [.ref a, .ref s4.heap.objs.size]) ht.typeIs PyProof.Rows.slot_tuple_getitem.lookup ?_ (by with_unfolding_all rfl)
  refine getItem_tuple_rev ht (Heap.IsSliceOf.new _ .none .none vs) ps ?_ (by rw [List.size_toArray]; omega)
  refine ⟨.ref _, _, I5.laid (t' := s4.toks) (o := .tup xs.reverse) (fun b ob q => Heap.get?_push_of_some _ q) (Nat.le_refl _) ?_, rfl, q _ (I5.hok.fresh (Nat.le_refl _))⟩
  exact ⟨by rw [List.length_reverse]; exact hz, _, r.reverse, IsTup.new _ _⟩
theorem RpA.reverse {F : Hp} {vs : List V} {ds : List PyData} (r : RpA K F vs ds) : RpA K F vs.reverse ds.reverse := by
  induction r using RpA.rec (motive_1 := fun _ _ _ => True) with
  | nil => exact .nil
  | cons h t _ ih =>
    rw [List.reverse_cons, List.reverse_cons]
    exact ih.append (.cons h .nil)
  | _ => trivial
def fRevT (f : MX) : MX := fun ρ π => (asT (f ρ π)).map fun (xs, π1) => (.tuple xs.reverse, π1)
theorem ev_revT {te : TE} {f : MX} (e : EvX K te f) : EvE K (tRevT K te) (fRevT f) := fun ρ π d π' hf pa H0 F H σ Q w s q => by
  unfold fRevT at hf
  cases e1 : asT (f ρ π) with
  | none => rw [e1] at hf; cases hf
  | some o1 =>
    obtain ⟨xs, π1⟩ := o1
    rw [e1] at hf
    cases hf
    refine e ρ π _ _ (asT_some e1) pa H0 F H σ _ w s fun v F1 H1 p1 r1 => ?_
    obtain ⟨a, vs, rfl, h, r, hF⟩ := r1.tup_inv p1.wd
    refine ⟨a, vs, rfl, h, fun p np => ?_⟩
    have a1 := p1.wd.add (o := .tup vs.reverse) np
    exact q (.ref p) _ _ (p1.trans w a1) (.tup (.inl (.inl upd_same)) (r.reverse.mono a1.ff))

/-! #### text * int -/
def repS (x : Str) (n : Int) : Str := ⟨(List.replicate n.toNat x.cps).foldl (· ++ ·) #[]⟩
def rRepS : R2 := fun x y H Q => ∃ (z : Str) (k : Int), x = .str z ∧ y = .int k ∧ 2 ≤ k ∧ k ≤ 1000 ∧ z.length ≠ 0 ∧ z.length ≤ 1000 ∧ Q (.str (repS z k)) H
theorem op_repS : OpR X (binaryOp .Mult) rRepS := by
  intro pins s σ H x y v u Q I rx ry h
  obtain ⟨z, k, rfl, rfl, h1, h2, h3, h4, q⟩ := h
  obtain ⟨t, rfl⟩ := rx
  obtain ⟨t', rfl⟩ := ry
  have c1 : ¬ k < 1 := by omega
  have c2 : (k == 1 || z.length == 0) = false := by
    rw [beq_eq_false_iff_ne.mpr (by omega : k ≠ 1), beq_eq_false_iff_ne.mpr h3]
    rfl
  have a1 : (k.toNat) * z.length ≤ 1000 * 1000 := Nat.mul_le_mul (by omega) h4
  refine PySem.P.mul_str (by rw [decide_eq_false (by omega), decide_eq_false (by omega)]; rfl) (fun _ _ hz => ?_) (fun _ _ => ?_) ?_
  · have b1 : (1000 : Int) ≤ (2 ^ 63 - 1) / k := Int.le_ediv_of_mul_le (by omega) (by omega)
    omega
  · unfold Builtin.Str.tooLong
    have e : (sizeLine : Nat) = 16777216 := sizeLine_eq
    first
      | (rw [e]; exact decide_eq_false (by rw [Nat.mul_comm] at a1; omega))
      | (simp only [decide_eq_false_iff_not]; rw [Nat.mul_comm] at a1; omega)
  · rw [if_neg c1, c2, if_neg Bool.false_ne_true]
    refine ⟨?_, .str (repS z k), H, I.tok _, ⟨_, rfl⟩, q⟩
    show (repS z k).cps.size ≤ sizeLine
    have e : (sizeLine : Nat) = 16777216 := sizeLine_eq
    have sz : ∀ (n : Nat) (acc : Array Nat), ((List.replicate n z.cps).foldl (· ++ ·) acc).size = acc.size + n * z.length := by
      intro n
      induction n with
      | zero => intro acc; simp
      | succ n ih =>
        intro acc
        rw [List.replicate_succ, List.foldl_cons, ih, Array.size_append]
        have : z.cps.size = z.length := rfl
        rw [this, Nat.succ_mul]
        omega
    show ((List.replicate k.toNat z.cps).foldl (· ++ ·) #[]).size ≤ sizeLine
    rw [sz, e]
    simp only [Array.size_empty]
    omega
def gMulS : PyData → PyData → Option PyData
  | .str z, .int k => if 2 ≤ k ∧ k ≤ 1000 ∧ z.length ≠ 0 ∧ z.length ≤ 1000 then some (.str (repS z k)) else none
  | _, _ => none
theorem sim_mulS : Sim2 K rRepS gMulS := by
  intro pa F H π x y dx dy d Q w rx ry e q
  unfold gMulS at e
  split at e
  · split at e
    · rename_i z k hz
      cases e
      exact ⟨z, k, rx.str_inv, ry.int_inv, hz.1, hz.2.1, hz.2.2.1, hz.2.2.2, q _ F H (.refl w) (.str _)⟩
    · cases e
  · cases e

theorem call_setT (hcalm : X.calm = true) : CallR X (.type "set") (rSetT X.w X.K) := by
  intro pins s σ H xs us Q I r h
  obtain ⟨a, ns, rfl, hs, hb, q⟩ := h
  obtain ⟨its, rv, ht, hz⟩ := I.tuple hs
  rw [Vals.ref1 r]
  refine call_set_tupI ns (I.ok.hd hcalm) ht (intsAre_of rv) hb fun h' tk c R hc hk => ?_
  have hn : H s.heap.objs.size = none := I.hok.fresh (Nat.le_refl _)
  exact ⟨.ref s.heap.objs.size, upd H s.heap.objs.size (SetO X.w s.heap.objs.size (fun j => decide (j ∈ ns)) c), I.laid (t' := tk) hk (Nat.le_refl _) (setO_new R), rfl, q _ c hn hc⟩
end
end DL

set_option maxHeartbeats 2000000
namespace DL
open PySem PySem.Spec PyProof.Rows L2
set_option autoImplicit false
section
variable {X : Cx} {K : PySem.W.Frag}

/-! #### sorted(set(t)) -/
def insU (x : Int) : List Int → List Int
  | [] => [x]
  | y :: r => if x < y then x :: y :: r else if x = y then y :: r else y :: insU x r
def srtU : List Int → List Int
  | [] => []
  | x :: r => insU x (srtU r)
theorem insU_mem (x z : Int) : ∀ l : List Int, z ∈ insU x l ↔ z = x ∨ z ∈ l
  | [] => by unfold insU; simp
  | y :: r => by
    unfold insU
    split
    · simp
    · split
      · rename_i e
        subst e
        simp
      · simp only [List.mem_cons, insU_mem x z r]
        constructor
        · rintro (h | h | h)
          · exact .inr (.inl h)
          · exact .inl h
          · exact .inr (.inr h)
        · rintro (h | h | h)
          · exact .inr (.inl h)
          · exact .inl h
          · exact .inr (.inr h)
theorem srtU_mem (z : Int) : ∀ l : List Int, z ∈ srtU l ↔ z ∈ l
  | [] => by unfold srtU; simp
  | x :: r => by
    unfold srtU
    rw [insU_mem, srtU_mem z r, List.mem_cons]
theorem insU_lt (x : Int) : ∀ l : List Int, l.Pairwise (· < ·) → (insU x l).Pairwise (· < ·)
  | [], _ => by unfold insU; exact List.pairwise_singleton _ _
  | y :: r, h => by
    obtain ⟨h1, h2⟩ := List.pairwise_cons.mp h
    unfold insU
    split
    · rename_i hxy
      refine List.pairwise_cons.mpr ⟨fun z hz => ?_, h⟩
      rcases List.mem_cons.mp hz with e | hz
      · rw [e]; exact hxy
      · exact Int.lt_trans hxy (h1 z hz)
    · split
      · exact h
      · rename_i hxy hne
        refine List.pairwise_cons.mpr ⟨fun z hz => ?_, insU_lt x r h2⟩
        rcases (insU_mem x z r).mp hz with e | hz
        · rw [e]; omega
        · exact h1 z hz
theorem srtU_lt : ∀ l : List Int, (srtU l).Pairwise (· < ·)
  | [] => .nil
  | x :: r => insU_lt x _ (srtU_lt r)
theorem lt_eq : ∀ {l m : List Int}, (∀ z, z ∈ l ↔ z ∈ m) → l.Pairwise (· < ·) → m.Pairwise (· < ·) → l = m
  | [], [], _, _, _ => rfl
  | [], y :: m, p, _, _ => absurd ((p y).mpr List.mem_cons_self) (by simp)
  | x :: l, [], p, _, _ => absurd ((p x).mp List.mem_cons_self) (by simp)
  | x :: l, y :: m, p, h, k => by
    obtain ⟨h1, h2⟩ := List.pairwise_cons.mp h
    obtain ⟨k1, k2⟩ := List.pairwise_cons.mp k
    have a : x ≤ y := by
      rcases List.mem_cons.mp ((p y).mpr List.mem_cons_self) with e | z
      · rw [e]; exact Int.le_refl _
      · exact Int.le_of_lt (h1 y z)
    have b : y ≤ x := by
      rcases List.mem_cons.mp ((p x).mp List.mem_cons_self) with e | z
      · rw [e]; exact Int.le_refl _
      · exact Int.le_of_lt (k1 x z)
    have e : x = y := by omega
    subst e
    have q : ∀ z, z ∈ l ↔ z ∈ m := fun z => by
      constructor
      · intro hz
        rcases List.mem_cons.mp ((p z).mp (List.mem_cons_of_mem _ hz)) with e | w
        · have := h1 z hz; omega
        · exact w
      · intro hz
        rcases List.mem_cons.mp ((p z).mpr (List.mem_cons_of_mem _ hz)) with e | w
        · have := k1 z hz; omega
        · exact w
    rw [lt_eq q h2 k2]
def gSortSet : PyData → Option (List PyData)
  | .tuple ds => (ints? ds).bind fun ns => if ns.length < 63 then some ((srtU ns).map PyData.int) else none
  | _ => none
theorem ev_sortSet {w0 : World} {te : TE} {f : MX} (e : EvX K te f) : EvN K (tCB (rSortedSet w0) (tCons (tCB (rSetT w0 K) (tCons te tNil)) tNil)) (fUN gSortSet f) := fun ρ π ds π' hf pa H0 F H σ Q w s q => by
  obtain ⟨x, e1, e3⟩ := fUN_some hf
  refine e ρ π x π' e1 pa H0 F H σ _ w s fun v F1 H1 p1 r1 => ?_
  unfold gSortSet at e3
  split at e3
  · rename_i es
    cases e4 : ints? es with
    | none => rw [e4] at e3; cases e3
    | some ns =>
      rw [e4] at e3
      simp only [Option.bind_some] at e3
      split at e3
      · rename_i hz
        cases e3
        obtain ⟨a, vs, rfl, h, r, _⟩ := r1.tup_inv p1.wd
        rw [ints?_some e4] at r
        rw [r.int_inv] at h
        refine ⟨a, ns, rfl, h, by have : (64 : Nat) < scanBound := by decide
                                  omega, fun p c np hc => ?_⟩
        have a1 := p1.wd.addM (o := SetO w0 p (fun j => decide (j ∈ ns)) c) np
        have p2 := p1.trans w a1
        refine ⟨p, _, c, rfl, upd_same, by omega, fun ns' p' so mem _ np' => ?_⟩
        have en : ns' = srtU ns := lt_eq (fun z => by rw [mem z, srtU_mem, decide_eq_true_iff]) so (srtU_lt ns)
        subst en
        exact q p' _ F1 _ (p2.trans w (a1.wd.addM np')) (p2.fresh np') (a1.wd.free np') (a1.wd.pa_ne np') upd_same (RpA.ints _)
      · cases e3
  · cases e3

/-! #### isinstance -/
def tyName : PyData → String
  | .none => "NoneType"
  | .bool _ => "bool"
  | .int _ => "int"
  | .str _ => "str"
  | .list _ => "list"
  | .tuple _ => "tuple"
  | .dict _ => "dict"
theorem tyx_of {pa : Option Addr} {F H : Hp} {π : Pt} {v : V} {d : PyData} (w : Wd pa F H π) (h : RpX K pa F H v d) : TyX K H v (.type (tyName d)) := by
  have lst : ∀ {a : Addr} {xs : List V}, SqL K H a xs → TyX K H (.ref a) (.type "list") := fun {a xs} z => by
    rcases z with (z | ⟨o, z⟩) | ⟨o, its, n, z, c, _⟩
    · exact .base (.lst z)
    · exact .base (.frz z)
    · exact .kList z c
  rcases h with h | ⟨a, vs, ds, rfl, rfl, _, _, h3, _⟩
  · cases h with
    | non => exact .base .non
    | bl b => exact .base (.bl b)
    | int i => exact .base (.int i)
    | str x => exact .base (.str x)
    | lst z r => exact lst (w.same.seq z)
    | tup z r =>
      rcases seqT_mono w.same z with (z | ⟨o, z⟩) | ⟨o, its, n, z, c, _⟩
      · exact .base (.tup z)
      · exact .fTuple z
      · exact .kTuple z c
    | dct z => exact .base (.dK (w.same _ _ z))
  · exact .base (.lst h3)
def gIsi (T : String) : PyData → Option PyData := fun d => (kitB (tyName d) T).map PyData.bool
def fIsi (T : String) (f : MX) : MX := fU (gIsi T) f
theorem ev_isi {te : TE} {f : MX} {T : String} (e : EvX K te f) : EvE K (tCB (rIsi K) (tCons te (tCons (tC (.ty T)) tNil))) (fIsi T f) := fun ρ π d π' hf pa H0 F H σ Q w s q => by
  obtain ⟨x, e1, e3⟩ := fU_some hf
  unfold gIsi at e3
  cases e4 : kitB (tyName x) T with
  | none => rw [e4] at e3; cases e3
  | some b =>
    rw [e4] at e3
    cases e3
    exact e ρ π x π' e1 pa H0 F H σ _ w s fun v F1 H1 p1 r1 => ⟨v, .ty T, _, _, b, rfl, .ty T, tyx_of p1.wd r1, kit_ty e4, q _ F1 H1 p1 (.bl b)⟩
/-- isinstance(x, (T, U)) -/
def gIsi2 (T U : String) : PyData → Option PyData := fun d => (kitB (tyName d) T).bind fun b => if b = true then some (.bool true) else (kitB (tyName d) U).map PyData.bool
theorem ev_isi2 {te : TE} {f : MX} {T U : String} (e : EvX K te f) : EvE K (tCB (rIsiT K) (tCons te (tCons (tTup (tCons (tC (.ty T)) (tCons (tC (.ty U)) tNil))) tNil))) (fU (gIsi2 T U) f) := fun ρ π d π' hf pa H0 F H σ Q w s q => by
  obtain ⟨x, e1, e3⟩ := fU_some hf
  refine e ρ π x π' e1 pa H0 F H σ _ w s fun v F1 H1 p1 r1 => ⟨by show 2 ≤ sizeLine; rw [sizeLine_eq]; decide, fun p np => ?_⟩
  have a1 := p1.wd.add (o := .tup [.ty T, .ty U]) np
  have p2 := p1.trans w a1
  have tx := tyx_of a1.wd (r1.post p1.wd a1)
  have pr : Paired ClsV [.ty T, .ty U] [.type T, .type U] := .cons (.ty T) (.cons (.ty U) .nil)
  unfold gIsi2 at e3
  cases e4 : kitB (tyName x) T with
  | none => rw [e4] at e3; cases e3
  | some b =>
    rw [e4] at e3
    simp only [Option.bind_some] at e3
    cases b with
    | true =>
      rw [if_pos rfl] at e3
      cases e3
      exact ⟨v, p, _, _, _, true, rfl, upd_same, pr, tx, kitAny_cons (r := true) (kit_ty e4) (fun z => nomatch z) (fun _ => rfl), q _ _ _ p2 (.bl true)⟩
    | false =>
      rw [if_neg Bool.false_ne_true] at e3
      cases e5 : kitB (tyName x) U with
      | none => rw [e5] at e3; cases e3
      | some c =>
        rw [e5] at e3
        cases e3
        refine ⟨v, p, _, _, _, c, rfl, upd_same, pr, tx, kitAny_cons (r := c) (kit_ty e4) (fun _ => ?_) (fun z => nomatch z), q _ _ _ p2 (.bl c)⟩
        unfold PySem.W.kitAny
        rw [kit_ty e5]
        cases c <;> rfl

/-! #### repr -/
def rReprX (K : PySem.W.Frag) : List V → Hp → VK → Prop := fun xs H Q => ∃ x pa F π d, xs = [x] ∧ Wd pa F H π ∧ RpX K pa F H x d ∧ d.showable = true ∧ d.depth ≤ 60 ∧ d.shown.length ≤ sizeLine ∧ Q (.str d.shown) H
theorem call_reprX (hg : X.A.guards = some []) (hu : X.A.units + 64 < cLine) : CallR X (.builtin "repr") (rReprX X.K) := by
  intro pins s σ H xs us Q I r h
  obtain ⟨x, pa, F, π, d, rfl, w, hx, hs, hd, hz, q⟩ := h
  obtain ⟨u, rfl, ru⟩ := vals1 r
  obtain ⟨as, hr, hn⟩ := hx.reads I w ru
  cases hr with
  | none => exact PySem.P.repr_of_none ⟨.str _, H, I.tok _, ⟨_, rfl⟩, q⟩
  | bool b => exact PySem.P.repr_of_bool ⟨.str _, H, I.tok _, ⟨_, rfl⟩, q⟩
  | int i t => exact PySem.P.repr_of_int (by simpa [PyData.showable] using hs) ⟨.str _, H, I.tok _, ⟨_, rfl⟩, q⟩
  | str x t => exact PySem.P.repr_of_str ⟨.str _, H, I.tok _, ⟨_, rfl⟩, q⟩ (by simpa only [PyData.shown] using hz)
  | list h1 h2 h3 h4 => exact repr_of_reads' (.list h1 h2 h3 h4) hs (fun _ => hn) hg (by omega) (fun _ _ z => z) (fun h' u tk hk => ⟨.str _, H, I.kept hk, ⟨_, rfl⟩, q⟩) hz
  | tuple h1 h2 h3 h4 => exact repr_of_reads' (.tuple h1 h2 h3 h4) hs (fun _ => hn) hg (by omega) (fun _ _ z => z) (fun h' u tk hk => ⟨.str _, H, I.kept hk, ⟨_, rfl⟩, q⟩) hz
  | dict h1 h2 h3 h4 h5 => exact repr_of_reads' (.dict h1 h2 h3 h4 h5) hs (fun _ => hn) hg (by omega) (fun _ _ z => z) (fun h' u tk hk => ⟨.str _, H, I.kept hk, ⟨_, rfl⟩, q⟩) hz
def gRepr : PyData → Option PyData := fun d => if d.showable = true ∧ d.depth ≤ 60 ∧ d.shown.length ≤ sizeLine then some (.str d.shown) else none
theorem sim_repr : SimC1 K (rReprX K) gRepr := by
  intro pa F H π x dx d Q w rx e q
  unfold gRepr at e
  split at e
  · rename_i hz
    cases e
    exact ⟨x, pa, F, π, dx, rfl, w, rx, hz.1, hz.2.1, hz.2.2, q _ F H (.refl w) (.str _)⟩
  · cases e

def gTupRange : PyData → Option PyData
  | .int n => if 0 ≤ n ∧ n ≤ 1000 then some (.tuple (upTo 0 n.toNat)) else none
  | _ => none
theorem RpA.upTo {F : Hp} (lo : Int) : ∀ n : Nat, RpA K F ((List.range n).map fun (i : Nat) => V.int (lo + (i : Int))) (DL.upTo lo n) := fun n => by
  unfold DL.upTo
  have e1 : ((List.range n).map fun (i : Nat) => V.int (lo + (i : Int))) = ((List.range n).map fun (i : Nat) => lo + (i : Int)).map V.int := by rw [List.map_map]; rfl
  have e2 : ((List.range n).map fun (i : Nat) => PyData.int (lo + (i : Int))) = ((List.range n).map fun (i : Nat) => lo + (i : Int)).map PyData.int := by rw [List.map_map]; rfl
  rw [e1, e2]
  exact RpA.ints _
def fDict0 : MX := fun _ π => some (.dict [], π)
theorem ev_dict0 : EvE K tDNewK fDict0 := fun ρ π d π' hf pa H0 F H σ Q w s q => by
  cases hf
  intro p np
  exact q (.ref p) _ _ (w.add (o := .dK []) np) (.dct upd_same)
end
end DL

set_option maxHeartbeats 2000000
namespace DL
open PySem PySem.Spec PyProof.Rows L2
set_option autoImplicit false

/-! #### targets -/
def wipeE (ρ : Ev) : List Nat → Ev
  | [] => ρ
  | v :: vs => (wipeE ρ vs).set v .e
section
variable {K : PySem.W.Frag} {pa : Option Addr} {H0 F H F' H' : Hp} {π π' : Pt} {σ : St} {ρ : Ev}
theorem StOk.setE {i : Nat} {o : Option V} (h : StOk K pa H0 F H σ ρ) : StOk K pa H0 F H (σ.set i o) (ρ.set i .e) := by
  refine ⟨by rw [List.length_set, List.length_set]; exact h.len, fun j s e => ?_, fun j k xs ys ne e1 e2 => ?_⟩
  · by_cases hj : i = j
    · subst hj
      by_cases hl : i < ρ.length
      · rw [List.getElem?_set_self hl] at e
        cases e
        trivial
      · rw [List.getElem?_eq_none (by rw [List.length_set]; omega)] at e
        cases e
    · rw [List.getElem?_set_ne hj] at e
      rw [List.getD_eq_getElem?_getD, List.getElem?_set_ne hj, ← List.getD_eq_getElem?_getD]
      exact h.at_ j s e
  · have out : ∀ {l : Nat} {us : List PyData}, (ρ.set i .e)[l]? = some (.m us) → i ≠ l := fun {l us} q z => by
      subst z
      by_cases hl : i < ρ.length
      · rw [List.getElem?_set_self hl] at q; cases q
      · rw [List.getElem?_eq_none (by rw [List.length_set]; omega)] at q; cases q
    have hj := out e1
    have hk := out e2
    rw [List.getElem?_set_ne hj] at e1
    rw [List.getElem?_set_ne hk] at e2
    have q := h.apart j k xs ys ne e1 e2
    rw [List.getD_eq_getElem?_getD, List.getD_eq_getElem?_getD, List.getElem?_set_ne hj, List.getElem?_set_ne hk, ← List.getD_eq_getElem?_getD, ← List.getD_eq_getElem?_getD]
    exact q
theorem StOk.wipe (h : StOk K pa H0 F H σ ρ) : ∀ vs : List Nat, StOk K pa H0 F H (L2.wipe σ vs) (wipeE ρ vs)
  | [] => h
  | v :: vs => (StOk.wipe h vs).setE
theorem wipe_set {i : Nat} {o : Option V} : ∀ {vs : List Nat} {σ : St}, i ∈ vs → L2.wipe (σ.set i o) vs = L2.wipe σ vs
  | [], _, h => absurd h (by simp)
  | v :: vs, σ, h => by
    show (L2.wipe (σ.set i o) vs).set v none = (L2.wipe σ vs).set v none
    by_cases hv : i ∈ vs
    · rw [wipe_set hv]
    · have e : v = i := ((List.mem_cons.mp h).resolve_right hv).symm
      subst e
      have q : ∀ {us : List Nat} {τ : St}, v ∉ us → L2.wipe (τ.set v o) us = (L2.wipe τ us).set v o := by
        intro us
        induction us with
        | nil => intro τ _; rfl
        | cons u us ih =>
          intro τ hu
          have h1 : v ≠ u := fun z => hu (by rw [z]; exact List.mem_cons_self)
          have h2 : v ∉ us := fun z => hu (List.mem_cons_of_mem _ z)
          show (L2.wipe (τ.set v o) us).set u none = ((L2.wipe τ us).set u none).set v o
          rw [ih h2, List.set_comm _ _ h1]
      rw [q hv, List.set_set]
end
abbrev MG := PyData → Ev → Option Ev
/-- a target, for settled data; it stores at names of vs alone -/
def EvG (K : PySem.W.Frag) (g : TG) (vs : List Nat) (t : MG) : Prop := ∀ x ρ ρ', t x ρ = some ρ' → ∀ pa H0 F H π σ v Q, Wd pa F H π → StOk K pa H0 F H σ ρ → Rp K F v x →
  (∀ σ', StOk K pa H0 F H σ' ρ' → L2.wipe σ' vs = L2.wipe σ vs → Q σ' H) → g v σ H Q
def EvGs (K : PySem.W.Frag) (g : TGs) (vs : List Nat) (t : List PyData → Ev → Option Ev) : Prop := ∀ xs ρ ρ', t xs ρ = some ρ' → ∀ pa H0 F H π σ ws Q, Wd pa F H π → StOk K pa H0 F H σ ρ → RpA K F ws xs →
  (∀ σ', StOk K pa H0 F H σ' ρ' → L2.wipe σ' vs = L2.wipe σ vs → Q σ' H) → g ws σ H Q
section
variable {K : PySem.W.Frag} {vs : List Nat}
def tName (i : Nat) : MG := fun x ρ => some (ρ.set i (.d x))
theorem evg_name {i : Nat} (hi : i ∈ vs) : EvG K (gName i) vs (tName i) := fun x ρ ρ' e pa H0 F H π σ v Q w s r q => by
  cases e
  exact q _ (s.setD r) (wipe_set hi)
def tsNil : List PyData → Ev → Option Ev
  | [], ρ => some ρ
  | _, _ => none
def tsCons (t : MG) (u : List PyData → Ev → Option Ev) : List PyData → Ev → Option Ev
  | x :: xs, ρ => (t x ρ).bind (u xs)
  | _, _ => none
theorem evgs_nil : EvGs K gNil vs tsNil := fun xs ρ ρ' e pa H0 F H π σ ws Q w s r q => by
  cases xs with
  | nil =>
    cases e
    cases r
    exact ⟨rfl, q σ s rfl⟩
  | cons x xs => cases e
theorem evgs_cons {g : TG} {gs : TGs} {t : MG} {u : List PyData → Ev → Option Ev} (h1 : EvG K g vs t) (h2 : EvGs K gs vs u) : EvGs K (gCons g gs) vs (tsCons t u) := fun xs ρ ρ' e pa H0 F H π σ ws Q w s r q => by
  cases xs with
  | nil => cases e
  | cons x xs =>
    cases r with
    | cons r rr =>
      have e : (t x ρ).bind (u xs) = some ρ' := e
      cases e1 : t x ρ with
      | none => rw [e1] at e; cases e
      | some ρ1 =>
        rw [e1] at e
        refine ⟨_, _, rfl, h1 x ρ ρ1 e1 pa H0 F H π σ _ _ w s r fun σ1 s1 w1 => ?_⟩
        exact h2 xs ρ1 ρ' e pa H0 F H π σ1 _ _ w s1 rr fun σ2 s2 w2 => q σ2 s2 (w2.trans w1)
def tTupG (u : List PyData → Ev → Option Ev) (n : Nat) : MG := fun x ρ => match x with
  | .tuple xs => if xs.length = n then u xs ρ else none
  | _ => none
theorem evg_tup {gs : TGs} {u : List PyData → Ev → Option Ev} {n : Nat} (h : EvGs K gs vs u) : EvG K (gTup K n gs) vs (tTupG u n) := fun x ρ ρ' e pa H0 F H π σ v Q w s r q => by
  unfold tTupG at e
  split at e
  · rename_i xs
    split at e
    · rename_i hn
      obtain ⟨a, us, rfl, hs, ra⟩ := r.tup_inv
      exact ⟨a, us, rfl, seqT_mono w.same hs, by rw [ra.length]; exact hn, h xs ρ ρ' e pa H0 F H π σ us Q w s ra q⟩
    · cases e
  · cases e

def lcM (own : List Nat) (t : MG) (b : MT) (f : MX) (ρ : Ev) : List PyData → Pt → Option (List PyData × Pt)
  | [], π => some ([], π)
  | x :: xs, π => (t x (wipeE ρ own)).bind fun ρ1 => (b ρ1 π).bind fun (ok, π1) =>
      if ok = true then (f ρ1 π1).bind fun (y, π2) => (lcM own t b f ρ xs π2).map fun (ys, π3) => (y :: ys, π3)
      else lcM own t b f ρ xs π1
def fLc (it : ML) (own : List Nat) (t : MG) (b : MT) (f : MX) : ML := fun ρ π => (it ρ π).bind fun (ds, π1) => if ds.length ≤ sizeLine then lcM own t b f ρ ds π1 else none
theorem evt_yes : EvT K tYes (fun _ π => some (true, π)) := fun ρ π b π' hf pa H0 F H σ Q w s q => by
  cases hf; exact q F H (.refl w)
/-- an own object is written meanwhile -/
theorem Post.write {pa : Option Addr} {F1 H1 F H : Hp} {π π1 : Pt} {D : Addr} {o : HO} (w1 : Wd pa F1 H1 π1) (p : Post pa F1 H1 F H π) (n1 : H1 D = none) (nF : F D = none) (np : pa ≠ some D) : Post pa F1 H1 F (upd H D o) π where
  ff := p.ff
  wd := ⟨same_upd2 p.wd.same nF, by
      obtain ⟨u, q, r⟩ := w1.sys
      obtain ⟨u2, q2, r2⟩ := p.wd.sys
      exact ⟨u2, by rw [upd_ne (ne_of_none q n1)]; exact q2, r2⟩, fun a e => by
      obtain ⟨q1, q2⟩ := p.wd.pot a e
      have ne : a ≠ D := fun z => np (by rw [← z]; exact e)
      exact ⟨q1, by rw [upd_ne ne]; exact q2⟩⟩
  keep := fun b x e n => by rw [upd_ne (ne_of_none e n1)]; exact p.keep b x e n
  new := p.new
theorem ev_lc {wi : TI} {g : TG} {tt : TT} {te : TE} {it : ML} {own : List Nat} {t : MG} {b : MT} {f : MX} (ei : EvI K wi it) (eg : EvG K g own t) (et : EvT K tt b) (ee : EvE K te f) : EvN K (tLc wi g tt te own) (fLc it own t b f) := fun ρ π ds π' hf pa H0 F H σ Q w s q => by
  unfold fLc at hf
  cases e1 : it ρ π with
  | none => rw [e1] at hf; cases hf
  | some o1 =>
    obtain ⟨es, π1⟩ := o1
    rw [e1] at hf
    simp only [Option.bind_some] at hf
    split at hf
    · rename_i hz
      refine ei ρ π es π1 e1 pa H0 F H σ _ w s fun J F1 H1 p1 ok D nD => ?_
      have s1 := s.post w p1
      have nDF : F1 D = none := p1.wd.free nD
      have npa : pa ≠ some D := p1.wd.pa_ne nD
      refine ⟨fun i m Hc => m = es.length - i ∧ i ≤ es.length ∧ ∃ (Fc : Hp) (πc : Pt) (avs : List V) (ads rest : List PyData), Post pa F1 H1 Fc Hc πc ∧ Hc D = some (.lst avs) ∧ Fc D = none ∧ RpA K Fc avs ads ∧ ads.length ≤ i ∧
        lcM own t b f ρ (es.drop i) πc = some (rest, π') ∧ ads ++ rest = ds, ⟨es.length, by simp, Nat.zero_le _, F1, π1, [], [], ds, ?_, upd_same, nDF, .nil, Nat.le_refl _, by rw [List.drop_zero]; exact hf, rfl⟩, ?_⟩
      · exact (Post.refl p1.wd).write p1.wd nD nDF npa
      rintro i m Hc ⟨rfl, hi, Fc, πc, avs, ads, rest, pc, hD, nF, ra, hl, hm, er⟩
      by_cases hlt : i < es.length
      · refine .inr ⟨ok.go pa i Fc Hc πc hlt pc.ff pc.wd, fun Hn => ∃ (Fc : Hp) (πc : Pt) (avs : List V) (ads rest : List PyData), Post pa F1 H1 Fc Hn πc ∧ Hn D = some (.lst avs) ∧ Fc D = none ∧ RpA K Fc avs ads ∧ ads.length ≤ i + 1 ∧
          lcM own t b f ρ (es.drop (i + 1)) πc = some (rest, π') ∧ ads ++ rest = ds, fun Hn hn => ⟨es.length - (i + 1), by omega, rfl, hlt, hn⟩, fun x Hx hy => ?_⟩
        have ed : es.drop i = es[i] :: es.drop (i + 1) := List.drop_eq_getElem_cons hlt
        obtain ⟨Fx, px, rx⟩ := ok.yld pa i Fc Hc πc x Hx es[i] (List.getElem?_eq_getElem hlt) pc.ff pc.wd hy
        rw [ed] at hm
        unfold lcM at hm
        cases e2 : t es[i] (wipeE ρ own) with
        | none => rw [e2] at hm; cases hm
        | some ρ1 =>
          rw [e2] at hm
          simp only [Option.bind_some] at hm
          have pcx := pc.trans p1.wd px
          have sx := (s1.post p1.wd pcx).wipe own
          refine eg es[i] (wipeE ρ own) ρ1 e2 pa H0 Fx Hx πc _ x _ px.wd sx rx fun σ2 s2 w2 => ⟨?_, ?_⟩
          · rw [w2]
            have ww : ∀ (us : List Nat), (∀ u ∈ us, u ∈ own) → L2.wipe (L2.wipe σ own) us = L2.wipe σ own := by
              intro us
              induction us with
              | nil => intro _; rfl
              | cons u us ih =>
                intro hu
                show (L2.wipe (L2.wipe σ own) us).set u none = L2.wipe σ own
                rw [ih fun v hv => hu v (List.mem_cons_of_mem _ hv)]
                have hmem := hu u List.mem_cons_self
                have set_none : ∀ {vs : List Nat}, u ∈ vs → (L2.wipe σ vs).set u none = L2.wipe σ vs := by
                  intro vs
                  induction vs with
                  | nil => intro z; exact absurd z (by simp)
                  | cons v vs ih2 =>
                    intro z
                    show ((L2.wipe σ vs).set v none).set u none = (L2.wipe σ vs).set v none
                    by_cases huv : u = v
                    · subst huv; rw [List.set_set]
                    · rw [List.set_comm _ _ (Ne.symm huv), ih2 ((List.mem_cons.mp z).resolve_left huv)]
                exact set_none hmem
            exact ww own fun _ z => z
          cases e3 : b ρ1 πc with
          | none => rw [e3] at hm; cases hm
          | some o3 =>
            obtain ⟨k, π2⟩ := o3
            rw [e3] at hm
            simp only [Option.bind_some] at hm
            have keepD : ∀ {F2 H2 : Hp} {π2 : Pt}, Post pa Fx Hx F2 H2 π2 → Hx D = some (.lst avs) → Fx D = none → H2 D = some (.lst avs) ∧ F2 D = none := fun {F2 H2 π2} pp h1 h2 => by
              refine ⟨pp.keep D _ h1 npa, ?_⟩
              cases z : F2 D with
              | none => rfl
              | some u =>
                rcases pp.new D u z with y | y
                · rw [h2] at y; cases y
                · rw [h1] at y; cases y
            have hDx : Hx D = some (.lst avs) ∧ Fx D = none := by
              refine ⟨px.keep D _ hD npa, ?_⟩
              cases z : Fx D with
              | none => rfl
              | some u =>
                rcases px.new D u z with y | y
                · rw [nF] at y; cases y
                · rw [hD] at y; cases y
            refine et ρ1 πc k π2 e3 pa H0 Fx Hx σ2 _ px.wd s2 fun F2 H2 p2 => ?_
            have pc2 := pcx.trans p1.wd p2
            have hD2 := keepD p2 hDx.1 hDx.2
            cases k with
            | false =>
              rw [if_neg Bool.false_ne_true] at hm ⊢
              exact ⟨F2, π2, avs, ads, rest, pc2, hD2.1, hD2.2, (ra.mono px.ff).mono p2.ff, Nat.le_succ_of_le hl, hm, er⟩
            | true =>
              rw [if_pos rfl] at hm ⊢
              cases e4 : f ρ1 π2 with
              | none => rw [e4] at hm; cases hm
              | some o4 =>
                obtain ⟨y, π3⟩ := o4
                rw [e4] at hm
                simp only [Option.bind_some] at hm
                cases e5 : lcM own t b f ρ (es.drop (i + 1)) π3 with
                | none => rw [e5] at hm; cases hm
                | some o5 =>
                  obtain ⟨ys, π4⟩ := o5
                  rw [e5] at hm
                  cases hm
                  refine ee ρ1 π2 y π3 e4 pa H0 F2 H2 σ2 _ p2.wd (s2.post px.wd p2) fun yv F3 H3 p3 r3 => ?_
                  have p23 := p2.trans px.wd p3
                  have hD3 := keepD p23 hDx.1 hDx.2
                  have pc3 := pcx.trans p1.wd p23
                  have ra3 : RpA K F3 avs ads := (ra.mono px.ff).mono p23.ff
                  refine ⟨avs, hD3.1, ?_, F3, π3, avs ++ [yv], ads ++ [y], ys, pc3.write p1.wd nD hD3.2 npa, upd_same, hD3.2, ra3.append (.cons r3 .nil), ?_, e5, ?_⟩
                  · rw [ra3.length]; omega
                  · rw [List.length_append]; exact Nat.succ_le_succ hl
                  · rw [List.append_assoc]; exact er
      · have ei : i = es.length := by omega
        subst ei
        rw [List.drop_length] at hm
        cases hm
        rw [List.append_nil] at er
        subst er
        refine .inl ⟨ok.stop pa Fc Hc _ pc.ff pc.wd, ?_⟩
        exact q D avs Fc Hc (p1.trans w pc) (p1.fresh nD) nF npa hD ra
    · cases hf
end
end DL

set_option maxHeartbeats 2000000
namespace DL
open PySem PySem.Spec PyProof.Rows L2
set_option autoImplicit false

inductive Out where
  | nx (ρ : Ev)
  | rt (d : PyData)
  | bk (ρ : Ev)
  | ct (ρ : Ev)
abbrev MS := Ev → Pt → Option (Out × Pt)

/-- how the heap lies since the def's entry (F0, H0), its pot then at pa0 -/
structure EndS (pa0 : Option Addr) (F0 H0 : Hp) (pa : Option Addr) (F H : Hp) (π : Pt) : Prop where
  ff : Same F0 F
  new : ∀ b o, F b = some o → F0 b = some o ∨ H0 b = none
  keep : ∀ b o, H0 b = some o → pa0 ≠ some b → H b = some o
  wd : Wd pa F H π
  pt : pa = pa0 ∨ (pa0 = none ∧ ∀ a, pa = some a → H0 a = none)
structure InvS (K : PySem.W.Frag) (pa0 : Option Addr) (F0 H0 : Hp) (pa : Option Addr) (F H : Hp) (π : Pt) (σ : St) (ρ : Ev) : Prop where
  e : EndS pa0 F0 H0 pa F H π
  s : StOk K pa H0 F H σ ρ
section
variable {K : PySem.W.Frag} {pa0 pa : Option Addr} {F0 H0 F H F' H' : Hp} {π π' : Pt} {σ : St} {ρ : Ev}
theorem EndS.step (e : EndS pa0 F0 H0 pa F H π) (p : Post pa F H F' H' π') : EndS pa0 F0 H0 pa F' H' π' where
  ff := e.ff.trans p.ff
  new := fun b o h => by
    rcases p.new b o h with z | z
    · exact e.new b o z
    · refine .inr ?_
      cases q : H0 b with
      | none => rfl
      | some u =>
        by_cases n : pa0 = some b
        · rcases e.pt with y | ⟨y, _⟩
          · obtain ⟨_, w⟩ := e.wd.pot b (y.trans n)
            rw [z] at w; cases w
          · rw [y] at n; cases n
        · rw [e.keep b u q n] at z; cases z
  keep := fun b o h n => by
    refine p.keep b o (e.keep b o h n) ?_
    rcases e.pt with y | ⟨y, w⟩
    · rw [y]; exact n
    · intro z
      rw [w b z] at h; cases h
  wd := p.wd
  pt := e.pt
theorem EndS.start (w : Wd pa0 F0 H0 π) : EndS pa0 F0 H0 pa0 F0 H0 π := ⟨Same.refl _, fun _ _ h => .inl h, fun _ _ h _ => h, w, .inl rfl⟩
theorem EndS.post (e : EndS pa0 F0 H0 pa F H π) : Post pa0 F0 H0 F H π where
  ff := e.ff
  wd := by
    rcases e.pt with y | ⟨y, _⟩
    · rw [← y]; exact e.wd
    · subst y
      exact ⟨e.wd.same, e.wd.sys, fun a z => nomatch z⟩
  keep := e.keep
  new := e.new
/-- what is new now was new at the entry -/
theorem EndS.fresh (e : EndS pa0 F0 H0 pa F H π) {a : Addr} (h : H a = none) : H0 a = none := e.post.fresh h
theorem InvS.step (i : InvS K pa0 F0 H0 pa F H π σ ρ) (p : Post pa F H F' H' π') : InvS K pa0 F0 H0 pa F' H' π' σ ρ := ⟨i.e.step p, i.s.post i.e.wd p⟩
end

section
variable (K : PySem.W.Frag)
/-- what D wants holds wherever o has come -/
def OutK (pa0 : Option Addr) (F0 H0 Fs : Hp) (π' : Pt) (o : Out) (D : Ends) : Prop :=
  match o with
  | .nx ρ' => ∀ pa F H σ, InvS K pa0 F0 H0 pa F H π' σ ρ' → Same Fs F → D.nx σ H
  | .bk ρ' => ∀ pa F H σ, InvS K pa0 F0 H0 pa F H π' σ ρ' → Same Fs F → D.bk σ H
  | .ct ρ' => ∀ pa F H σ, InvS K pa0 F0 H0 pa F H π' σ ρ' → Same Fs F → D.ct σ H
  | .rt d => ∀ pa F H v, EndS pa0 F0 H0 pa F H π' → Rp K F v d → Same Fs F → D.rt v H
def EvS (ts : TS) (g : MS) : Prop := ∀ ρ π o π', g ρ π = some (o, π') → ∀ pa0 F0 H0 pa F H σ D, InvS K pa0 F0 H0 pa F H π σ ρ → OutK K pa0 F0 H0 F π' o D → ts D σ H
end
theorem OutK.later {K : PySem.W.Frag} {pa0 : Option Addr} {F0 H0 Fs Ft : Hp} {π' : Pt} {o : Out} {D : Ends} (q : OutK K pa0 F0 H0 Fs π' o D) (s : Same Fs Ft) : OutK K pa0 F0 H0 Ft π' o D := by
  cases o with
  | nx ρ' => exact fun pa F H σ i z => q pa F H σ i (s.trans z)
  | bk ρ' => exact fun pa F H σ i z => q pa F H σ i (s.trans z)
  | ct ρ' => exact fun pa F H σ i z => q pa F H σ i (s.trans z)
  | rt d => exact fun pa F H v i r z => q pa F H v i r (s.trans z)
section
variable {K : PySem.W.Frag} {te : TE} {ts tu : TS} {f : MX} {g h : MS} {l : ML} {b : MT} {tt : TT}
def sNil : MS := fun ρ π => some (.nx ρ, π)
def sSeq (g h : MS) : MS := fun ρ π => (g ρ π).bind fun (o, π1) => match o with
  | .nx ρ1 => h ρ1 π1
  | .rt d => some (.rt d, π1)
  | .bk ρ1 => some (.bk ρ1, π1)
  | .ct ρ1 => some (.ct ρ1, π1)
theorem evs_nil : EvS K tNext sNil := fun ρ π o π' hf pa0 F0 H0 pa F H σ D i q => by
  cases hf; exact q pa F H σ i (Same.refl _)
theorem evs_seq (e1 : EvS K ts g) (e2 : EvS K tu h) : EvS K (tSeq ts tu) (sSeq g h) := fun ρ π o π' hf pa0 F0 H0 pa F H σ D i q => by
  unfold sSeq at hf
  cases eg : g ρ π with
  | none => rw [eg] at hf; cases hf
  | some r =>
    obtain ⟨o1, π1⟩ := r
    rw [eg] at hf
    simp only [Option.bind_some] at hf
    refine e1 ρ π o1 π1 eg pa0 F0 H0 pa F H σ { D with nx := tu D } i ?_
    cases o1 with
    | nx ρ1 => exact fun pa' F' H' σ' i' z => e2 ρ1 π1 o π' hf pa0 F0 H0 pa' F' H' σ' D i' (q.later z)
    | rt d => cases hf; exact q
    | bk ρ1 => cases hf; exact q
    | ct ρ1 => cases hf; exact q
/-- name = settled data -/
def sSet (i : Nat) (f : MX) : MS := fun ρ π => (f ρ π).map fun (x, π1) => (.nx (ρ.set i (.d x)), π1)
theorem evs_set {i : Nat} (e : EvE K te f) : EvS K (tAsg te (gName i)) (sSet i f) := fun ρ π o π' hf pa0 F0 H0 pa F H σ D iv q => by
  unfold sSet at hf
  cases ef : f ρ π with
  | none => rw [ef] at hf; cases hf
  | some r =>
    obtain ⟨x, π1⟩ := r
    rw [ef] at hf
    cases hf
    exact e ρ π x _ ef pa H0 F H σ _ iv.e.wd iv.s fun v F' H' p r => q pa F' H' _ ⟨iv.e.step p, (iv.s.post iv.e.wd p).setD r⟩ p.ff
theorem own_apart {pa : Option Addr} {H0 F H : Hp} {σ : St} {ρ : Ev} {a : Addr} (s : StOk K pa H0 F H σ ρ) (ha : H a = none) (i : Nat) : ∀ j ys, j ≠ i → ρ[j]? = some (.m ys) → σ.getD j none ≠ some (.ref a) := fun j ys _ e z => by
  obtain ⟨c, vs, e1, _, _, _, h3, _⟩ := s.at_ j _ e
  rw [z] at e1
  cases e1
  rw [ha] at h3
  cases h3
/-- name = a new list, kept as an own one -/
def sSetM (i : Nat) (l : ML) : MS := fun ρ π => (l ρ π).map fun (x, π1) => (.nx (ρ.set i (.m x)), π1)
theorem evs_setM {i : Nat} (e : EvN K te l) : EvS K (tAsg te (gName i)) (sSetM i l) := fun ρ π o π' hf pa0 F0 H0 pa F H σ D iv q => by
  unfold sSetM at hf
  cases ef : l ρ π with
  | none => rw [ef] at hf; cases hf
  | some r =>
    obtain ⟨x, π1⟩ := r
    rw [ef] at hf
    cases hf
    refine e ρ π x _ ef pa H0 F H σ _ iv.e.wd iv.s fun a vs F' H' p ha hF hp hH r => q pa F' H' _ ⟨iv.e.step p, ?_⟩ p.ff
    exact (iv.s.post iv.e.wd p).setM (iv.e.fresh ha) hF hp hH r (own_apart iv.s ha i)
/-- name = a new pot, in a def that was given none -/
def noPot (ρ : Ev) (i : Nat) : Bool := (List.range ρ.length).all fun j => decide (j = i) || (match ρ[j]? with
  | some .p => false
  | _ => true)
def sSetP (i : Nat) (l : ML) : MS := fun ρ π => (l ρ π).bind fun (x, _) => match x with
  | [.int a, .int b] => if noPot ρ i = true ∧ i < ρ.length then some (.nx (ρ.set i .p), (a, b)) else none
  | _ => none
theorem evs_setP {i : Nat} (e : EvN K te l) : ∀ ρ π o π', sSetP i l ρ π = some (o, π') → ∀ F0 H0 pa F H σ D, InvS K none F0 H0 pa F H π σ ρ → OutK K none F0 H0 F π' o D → tAsg te (gName i) D σ H := fun ρ π o π' hf F0 H0 pa F H σ D iv q => by
  unfold sSetP at hf
  cases ef : l ρ π with
  | none => rw [ef] at hf; cases hf
  | some r =>
    obtain ⟨x, π1⟩ := r
    rw [ef] at hf
    simp only [Option.bind_some] at hf
    split at hf
    · rename_i a b
      split at hf
      · rename_i hn
        cases hf
        refine e ρ π _ _ ef pa H0 F H σ _ iv.e.wd iv.s fun A vs F' H' p ha hF hp hH r => q (some A) F' H' _ ⟨?_, ?_⟩ p.ff
        · have e1 := iv.e.step p
          have ev : vs = [.int a, .int b] := by
            cases r with
            | cons r1 t => cases t with
              | cons r2 t2 =>
                cases t2
                rw [r1.int_inv, r2.int_inv]
          subst ev
          refine ⟨e1.ff, e1.new, e1.keep, ⟨e1.wd.same, e1.wd.sys, fun c z => ?_⟩, .inr ⟨rfl, fun c z => ?_⟩⟩
          · cases z; exact ⟨hF, hH⟩
          · cases z; exact iv.e.fresh ha
        · have s1 := iv.s.post iv.e.wd p
          refine ⟨by rw [List.length_set, List.length_set]; exact s1.len, fun j s ej => ?_, fun j k xs ys ne e1 e2 => ?_⟩
          · by_cases hj : i = j
            · subst hj
              rw [List.getElem?_set_self hn.2] at ej
              cases ej
              exact ⟨A, by rw [List.getD_eq_getElem?_getD, List.getElem?_set_self (by rw [s1.len]; exact hn.2)]; rfl, rfl⟩
            · rw [List.getElem?_set_ne hj] at ej
              rw [List.getD_eq_getElem?_getD, List.getElem?_set_ne hj, ← List.getD_eq_getElem?_getD]
              have z := s1.at_ j s ej
              cases s with
              | e => trivial
              | d x => exact z
              | m xs =>
                obtain ⟨c, us, z1, z0, z2, z3, z4, z5⟩ := z
                refine ⟨c, us, z1, z0, z2, fun zz => ?_, z4, z5⟩
                cases zz
                exact own_apart iv.s ha i j xs (Ne.symm hj) ej z1
              | p =>
                have q1 := hn.1
                unfold noPot at q1
                have hjl : j < ρ.length := (List.getElem?_eq_some_iff.mp ej).1
                have q2 := (List.all_eq_true.mp q1) j (List.mem_range.mpr hjl)
                rw [ej] at q2
                simp only [Bool.or_false, decide_eq_true_eq] at q2
                exact absurd q2.symm hj
          · have out : ∀ {m : Nat} {us : List PyData}, (ρ.set i .p)[m]? = some (.m us) → i ≠ m := fun {m us} z y => by
              subst y
              rw [List.getElem?_set_self hn.2] at z
              cases z
            have hj := out e1
            have hk := out e2
            rw [List.getElem?_set_ne hj] at e1
            rw [List.getElem?_set_ne hk] at e2
            have z := s1.apart j k xs ys ne e1 e2
            rw [List.getD_eq_getElem?_getD, List.getD_eq_getElem?_getD, List.getElem?_set_ne hj, List.getElem?_set_ne hk, ← List.getD_eq_getElem?_getD, ← List.getD_eq_getElem?_getD]
            exact z
      · cases hf
    · cases hf
/-- an own list is settled (nothing is done) -/
def sFrz (i : Nat) (g : MS) : MS := fun ρ π => match ρ[i]? with
  | some (.m xs) => g (ρ.set i (.d (.list xs))) π
  | _ => none
theorem evs_frz {i : Nat} (e : EvS K ts g) : EvS K ts (sFrz i g) := fun ρ π o π' hf pa0 F0 H0 pa F H σ D iv q => by
  unfold sFrz at hf
  split at hf
  · rename_i xs ei
    obtain ⟨a, vs, ea, h0, h1, h2, h3, h4⟩ := iv.s.own ei
    obtain ⟨s1, w1⟩ := iv.e.wd.settle h1 h2 h3
    refine e _ π o π' hf pa0 F0 H0 pa (upd F a (.lst vs)) H σ D ⟨⟨iv.e.ff.trans s1, fun c u hc => ?_, iv.e.keep, w1, iv.e.pt⟩, iv.s.settleM ei ea h3 h4 h1⟩ (q.later s1)
    by_cases hca : c = a
    · subst hca; exact .inr h0
    · rw [upd_ne hca] at hc; exact iv.e.new c u hc
  · cases hf
def sRet (f : MX) : MS := fun ρ π => (f ρ π).map fun (x, π1) => (.rt x, π1)
theorem evs_ret (e : EvE K te f) : EvS K (tRet te) (sRet f) := fun ρ π o π' hf pa0 F0 H0 pa F H σ D iv q => by
  unfold sRet at hf
  cases ef : f ρ π with
  | none => rw [ef] at hf; cases hf
  | some r =>
    obtain ⟨x, π1⟩ := r
    rw [ef] at hf
    cases hf
    exact e ρ π x _ ef pa H0 F H σ _ iv.e.wd iv.s fun v F' H' p r => q pa F' H' v (iv.e.step p) r p.ff
def sRetN : MS := fun _ π => some (.rt .none, π)
theorem evs_retN : EvS K tRetN sRetN := fun ρ π o π' hf pa0 F0 H0 pa F H σ D iv q => by
  cases hf; exact q pa F H .non iv.e .non (Same.refl _)
def sIf (b : MT) (g h : MS) : MS := fun ρ π => (b ρ π).bind fun (k, π1) => if k = true then g ρ π1 else h ρ π1
theorem evs_if (e : EvT K tt b) (e1 : EvS K ts g) (e2 : EvS K tu h) : EvS K (tIfS tt ts tu) (sIf b g h) := fun ρ π o π' hf pa0 F0 H0 pa F H σ D iv q => by
  unfold sIf at hf
  cases eb : b ρ π with
  | none => rw [eb] at hf; cases hf
  | some r =>
    obtain ⟨k, π1⟩ := r
    rw [eb] at hf
    simp only [Option.bind_some] at hf
    refine e ρ π k π1 eb pa H0 F H σ _ iv.e.wd iv.s fun F' H' p => ?_
    cases k with
    | true =>
      rw [if_pos rfl] at hf ⊢
      exact e1 ρ π1 o π' hf pa0 F0 H0 pa F' H' σ D (iv.step p) (q.later p.ff)
    | false =>
      rw [if_neg Bool.false_ne_true] at hf ⊢
      exact e2 ρ π1 o π' hf pa0 F0 H0 pa F' H' σ D (iv.step p) (q.later p.ff)
def sBrk : MS := fun ρ π => some (.bk ρ, π)
def sCnt : MS := fun ρ π => some (.ct ρ, π)
theorem evs_brk : EvS K tBreak sBrk := fun ρ π o π' hf pa0 F0 H0 pa F H σ D iv q => by cases hf; exact q pa F H σ iv (Same.refl _)
theorem evs_cnt : EvS K tCont sCnt := fun ρ π o π' hf pa0 F0 H0 pa F H σ D iv q => by cases hf; exact q pa F H σ iv (Same.refl _)
/-- a value dropped -/
def sDrop (f : MX) : MS := fun ρ π => (f ρ π).map fun (_, π1) => (.nx ρ, π1)
theorem evs_drop (e : EvX K te f) : EvS K (tDrop te) (sDrop f) := fun ρ π o π' hf pa0 F0 H0 pa F H σ D iv q => by
  unfold sDrop at hf
  cases ef : f ρ π with
  | none => rw [ef] at hf; cases hf
  | some r =>
    obtain ⟨x, π1⟩ := r
    rw [ef] at hf
    cases hf
    exact e ρ π x _ ef pa H0 F H σ _ iv.e.wd iv.s fun v F' H' p r => q pa F' H' σ (iv.step p) p.ff

/-! #### own lists changed -/
theorem own_write {pa0 pa : Option Addr} {F0 H0 F H : Hp} {π : Pt} {σ : St} {ρ : Ev} {i : Nat} {a : Addr} {vs vs' : List V} {xs xs' : List PyData} (iv : InvS K pa0 F0 H0 pa F H π σ ρ) (e : ρ[i]? = some (.m xs)) (ea : σ[i]? = some (some (.ref a)))
    (h0 : H0 a = none) (h1 : F a = none) (h2 : pa ≠ some a) (h3 : H a = some (.lst vs)) (r : RpA K F vs' xs') : InvS K pa0 F0 H0 pa F (upd H a (.lst vs')) π σ (ρ.set i (.m xs')) := by
  refine ⟨⟨iv.e.ff, iv.e.new, fun b o hb n => ?_, ⟨same_upd2 iv.e.wd.same h1, ?_, fun c z => ?_⟩, iv.e.pt⟩, iv.s.writeM e ea r⟩
  · have ne : b ≠ a := ne_of_none hb h0
    rw [upd_ne ne]
    exact iv.e.keep b o hb n
  · obtain ⟨u, q1, q2⟩ := iv.e.wd.sys
    have ne : a ≠ sysModules := iv.e.wd.sys_ne h3 fun ⟨_, z⟩ => by cases z
    exact ⟨u, by rw [upd_ne (Ne.symm ne)]; exact q1, q2⟩
  · obtain ⟨q1, q2⟩ := iv.e.wd.pot c z
    have ne : c ≠ a := fun y => h2 (by rw [← y]; exact z)
    exact ⟨q1, by rw [upd_ne ne]; exact q2⟩
def sApp (i : Nat) (f : MX) : MS := fun ρ π => (f ρ π).bind fun (x, π1) => match ρ[i]? with
  | some (.m xs) => if xs.length < sizeLine then some (.nx (ρ.set i (.m (xs ++ [x]))), π1) else none
  | _ => none
theorem evs_app {i : Nat} (e : EvE K te f) : EvS K (tDrop (tBM K "list" rAppend (tVar i) (tCons te tNil))) (sApp i f) := fun ρ π o π' hf pa0 F0 H0 pa F H σ D iv q => by
  unfold sApp at hf
  cases ef : f ρ π with
  | none => rw [ef] at hf; cases hf
  | some r =>
    obtain ⟨x, π1⟩ := r
    rw [ef] at hf
    simp only [Option.bind_some] at hf
    split at hf
    · rename_i xs ei
      split at hf
      · rename_i hz
        cases hf
        obtain ⟨a, vs, ea, h0, h1, h2, h3, h4⟩ := iv.s.own ei
        refine ⟨.ref a, ea, .inl ⟨rfl, vs, .inl (.inl h3)⟩, e ρ π x _ ef pa H0 F H σ _ iv.e.wd iv.s fun v F' H' p r => ?_⟩
        have iv' := iv.step p
        obtain ⟨a', vs', ea', h0', h1', h2', h3', h4'⟩ := iv'.s.own ei
        rw [ea] at ea'
        cases ea'
        exact ⟨a, vs', v, rfl, rfl, h3', by rw [h4'.length]; exact hz, q pa F' _ σ (own_write iv' ei ea h0' h1' h2' h3' (h4'.append (.cons r .nil))) p.ff⟩
      · cases hf
    · cases hf
/-- name.extend(a list) -/
def sExt (i : Nat) (l : ML) : MS := fun ρ π => (l ρ π).bind fun (ys, π1) => match ρ[i]? with
  | some (.m xs) => if xs.length + ys.length ≤ sizeLine then some (.nx (ρ.set i (.m (xs ++ ys))), π1) else none
  | _ => none
theorem evs_ext {i : Nat} (e : EvN K te l) : EvS K (tDrop (tBM K "list" rExtend (tVar i) (tCons te tNil))) (sExt i l) := fun ρ π o π' hf pa0 F0 H0 pa F H σ D iv q => by
  unfold sExt at hf
  cases ef : l ρ π with
  | none => rw [ef] at hf; cases hf
  | some r =>
    obtain ⟨ys, π1⟩ := r
    rw [ef] at hf
    simp only [Option.bind_some] at hf
    split at hf
    · rename_i xs ei
      split at hf
      · rename_i hz
        cases hf
        obtain ⟨a, vs, ea, h0, h1, h2, h3, h4⟩ := iv.s.own ei
        refine ⟨.ref a, ea, .inl ⟨rfl, vs, .inl (.inl h3)⟩, e ρ π ys _ ef pa H0 F H σ _ iv.e.wd iv.s fun A us F' H' p hA hFA hpA hHA r => ?_⟩
        have iv' := iv.step p
        obtain ⟨a', vs', ea', h0', h1', h2', h3', h4'⟩ := iv'.s.own ei
        rw [ea] at ea'
        cases ea'
        exact ⟨a, A, vs', us, rfl, rfl, h3', hHA, by rw [h4'.length, r.length]; exact hz, q pa F' _ σ (own_write iv' ei ea h0' h1' h2' h3' (h4'.append r)) p.ff⟩
      · cases hf
    · cases hf
/-- name[e] = f -/
def sSetIx (i : Nat) (h : MX) (f : MX) : MS := fun ρ π => (f ρ π).bind fun (x, π1) => (h ρ π1).bind fun (k, π2) => match ρ[i]?, k with
  | some (.m xs), .int k => (ixN xs.length k).map fun j => (.nx (ρ.set i (.m (xs.set j x))), π2)
  | _, _ => none
theorem evs_setIx {i : Nat} {tk : TE} {k : MX} (e : EvE K te f) (ek : EvX K tk k) : EvS K (tAsg te (gSub (tVar i) tk rSetL)) (sSetIx i k f) := fun ρ π o π' hf pa0 F0 H0 pa F H σ D iv q => by
  unfold sSetIx at hf
  cases ef : f ρ π with
  | none => rw [ef] at hf; cases hf
  | some r =>
    obtain ⟨x, π1⟩ := r
    rw [ef] at hf
    simp only [Option.bind_some] at hf
    cases eh : k ρ π1 with
    | none => rw [eh] at hf; cases hf
    | some r2 =>
      obtain ⟨kd, π2⟩ := r2
      rw [eh] at hf
      simp only [Option.bind_some] at hf
      split at hf
      · rename_i xs kk ei
        cases en : ixN xs.length kk with
        | none => rw [en] at hf; cases hf
        | some j =>
          rw [en] at hf
          cases hf
          refine e ρ π x π1 ef pa H0 F H σ _ iv.e.wd iv.s fun v F1 H1 p1 r1 => ?_
          have iv1 := iv.step p1
          obtain ⟨a, vs, ea, _⟩ := iv1.s.own ei
          refine ⟨.ref a, ea, ek ρ π1 _ _ eh pa H0 F1 H1 σ _ iv1.e.wd iv1.s fun u F2 H2 p2 r2 => ?_⟩
          have iv2 := iv1.step p2
          obtain ⟨a', vs', ea', h0', h1', h2', h3', h4'⟩ := iv2.s.own ei
          rw [ea] at ea'
          cases ea'
          exact ⟨a, vs', kk, j, rfl, r2.int_inv, h3', by rw [h4'.length]; exact en, q pa F2 _ σ (own_write iv2 ei ea h0' h1' h2' h3' (h4'.set (r1.mono p2.ff) j)) (p1.ff.trans p2.ff)⟩
      · cases hf

/-! #### loops -/
def forM (t : MG) (g : MS) : List PyData → Ev → Pt → Option (Out × Pt)
  | [], ρ, π => some (.nx ρ, π)
  | x :: xs, ρ, π => (t x ρ).bind fun ρ1 => (g ρ1 π).bind fun (o, π1) => match o with
    | .nx ρ2 => forM t g xs ρ2 π1
    | .ct ρ2 => forM t g xs ρ2 π1
    | .bk ρ2 => some (.nx ρ2, π1)
    | .rt d => some (.rt d, π1)
def sFor (it : ML) (t : MG) (g : MS) : MS := fun ρ π => (it ρ π).bind fun (ds, π1) => forM t g ds ρ π1
theorem evs_for {wi : TI} {gt : TG} {vs : List Nat} {it : ML} {t : MG} (ei : EvI K wi it) (eg : EvG K gt vs t) (eb : EvS K ts g) : EvS K (tFor wi gt ts) (sFor it t g) := fun ρ π o π' hf pa0 F0 H0 pa F H σ D iv q => by
  unfold sFor at hf
  cases e1 : it ρ π with
  | none => rw [e1] at hf; cases hf
  | some o1 =>
    obtain ⟨es, π1⟩ := o1
    rw [e1] at hf
    simp only [Option.bind_some] at hf
    refine ei ρ π es π1 e1 pa H0 F H σ _ iv.e.wd iv.s fun J F1 H1 p1 ok => ?_
    have iv1 := iv.step p1
    refine ⟨fun i m σc Hc => m = es.length - i ∧ i ≤ es.length ∧ ∃ (pc : Option Addr) (Fc : Hp) (ρc : Ev) (πc : Pt), InvS K pa0 F0 H0 pc Fc Hc πc σc ρc ∧ Same F1 Fc ∧ forM t g (es.drop i) ρc πc = some (o, π'),
      ⟨es.length, by simp, Nat.zero_le _, pa, F1, ρ, π1, iv1, Same.refl _, by rw [List.drop_zero]; exact hf⟩, ?_⟩
    rintro i m σc Hc ⟨rfl, hi, pc, Fc, ρc, πc, ivc, sc, hm⟩
    by_cases hlt : i < es.length
    · refine .inr ⟨ok.go pc i Fc Hc πc hlt sc ivc.e.wd, fun σn Hn => ∃ (pc : Option Addr) (Fc : Hp) (ρc : Ev) (πc : Pt), InvS K pa0 F0 H0 pc Fc Hn πc σn ρc ∧ Same F1 Fc ∧ forM t g (es.drop (i + 1)) ρc πc = some (o, π'),
        fun σn Hn hn => ⟨es.length - (i + 1), by omega, rfl, hlt, hn⟩, fun x Hx hy => ?_⟩
      have ed : es.drop i = es[i] :: es.drop (i + 1) := List.drop_eq_getElem_cons hlt
      obtain ⟨Fx, px, rx⟩ := ok.yld pc i Fc Hc πc x Hx es[i] (List.getElem?_eq_getElem hlt) sc ivc.e.wd hy
      rw [ed] at hm
      unfold forM at hm
      cases e2 : t es[i] ρc with
      | none => rw [e2] at hm; cases hm
      | some ρ1 =>
        rw [e2] at hm
        simp only [Option.bind_some] at hm
        have ivx := ivc.step px
        refine eg es[i] ρc ρ1 e2 pc H0 Fx Hx πc _ x _ ivx.e.wd ivx.s rx fun σ2 s2 _ => ?_
        cases e3 : g ρ1 πc with
        | none => rw [e3] at hm; cases hm
        | some o3 =>
          obtain ⟨ob, π2⟩ := o3
          rw [e3] at hm
          simp only [Option.bind_some] at hm
          refine eb ρ1 πc ob π2 e3 pa0 F0 H0 pc Fx Hx σ2 _ ⟨ivx.e, s2⟩ ?_
          have scx := sc.trans px.ff
          cases ob with
          | nx ρ2 => exact fun pd Fd Hd σd ivd sd => ⟨pd, Fd, ρ2, π2, ivd, scx.trans sd, hm⟩
          | ct ρ2 => exact fun pd Fd Hd σd ivd sd => ⟨pd, Fd, ρ2, π2, ivd, scx.trans sd, hm⟩
          | bk ρ2 => cases hm; exact fun pd Fd Hd σd ivd sd => q pd Fd Hd σd ivd (p1.ff.trans (scx.trans sd))
          | rt d => cases hm; exact fun pd Fd Hd v ivd r sd => q pd Fd Hd v ivd r (p1.ff.trans (scx.trans sd))
    · have ei2 : i = es.length := by omega
      subst ei2
      rw [List.drop_length] at hm
      cases hm
      exact .inl ⟨ok.stop pc Fc Hc _ sc ivc.e.wd, q pc Fc Hc σc ivc (p1.ff.trans sc)⟩
end
end DL

set_option maxHeartbeats 2000000
namespace DL
open PySem PySem.Spec PyProof.Rows L2
set_option autoImplicit false

abbrev MA := Ev → Pt → Option (List Sl × Pt)
/-- ta gives the values of the slots that f tells -/
def EvAr (K : PySem.W.Frag) (ta : TA) (f : MA) : Prop := ∀ ρ π sl π', f ρ π = some (sl, π') → ∀ pa H0 F H σ Q, Wd pa F H π → StOk K pa H0 F H σ ρ → (∀ vs F' H', Post pa F H F' H' π' → StOk K pa H F' H' (vs.map some) sl → Q vs H') → ta σ H Q
section
variable {K : PySem.W.Frag} {te : TE} {tr : TA} {f : MX} {l : ML} {r : MA}
def aNil : MA := fun _ π => some ([], π)
def aD (f : MX) (r : MA) : MA := fun ρ π => (f ρ π).bind fun (x, π1) => (r ρ π1).map fun (xs, π2) => (.d x :: xs, π2)
def aN (l : ML) (r : MA) : MA := fun ρ π => (l ρ π).bind fun (x, π1) => (r ρ π1).map fun (xs, π2) => (.m x :: xs, π2)
def aP (i : Nat) (r : MA) : MA := fun ρ π => match ρ[i]? with
  | some .p => (r ρ π).map fun (xs, π2) => (.p :: xs, π2)
  | _ => none
theorem evar_nil : EvAr K tNil aNil := fun ρ π sl π' hf pa H0 F H σ Q w s q => by
  cases hf
  exact q [] F H (.refl w) ⟨rfl, fun i s e => by simp at e, fun i j xs ys _ e => by simp at e⟩
theorem stok_cons {pa : Option Addr} {H0 F H : Hp} {v : V} {s0 : Sl} {σ : St} {ρ : Ev} (h : SlOk K pa H0 F H (some v) s0) (s : StOk K pa H0 F H σ ρ)
    (ap : ∀ xs j ys, s0 = .m xs → ρ[j]? = some (.m ys) → some v ≠ σ.getD j none) : StOk K pa H0 F H (some v :: σ) (s0 :: ρ) := by
  refine ⟨by rw [List.length_cons, List.length_cons, s.len], fun i u e => ?_, fun i j xs ys ne e1 e2 => ?_⟩
  · cases i with
    | zero =>
      have e : some s0 = some u := e
      cases e
      exact h
    | succ i => exact s.at_ i u e
  · cases i with
    | zero =>
      cases j with
      | zero => exact absurd rfl ne
      | succ j =>
        have e1 : some s0 = some (.m xs) := e1
        cases e1
        exact ap xs j ys rfl e2
    | succ i =>
      cases j with
      | zero =>
        have e2 : some s0 = some (.m ys) := e2
        cases e2
        exact fun z => ap ys i xs rfl e1 z.symm
      | succ j => exact s.apart i j xs ys (fun z => ne (by rw [z])) e1 e2
theorem StOk.entry {pa : Option Addr} {H1 H2 F H : Hp} {σ : St} {ρ : Ev} (s : StOk K pa H1 F H σ ρ) (h : ∀ a, H1 a = none → H2 a = none) : StOk K pa H2 F H σ ρ :=
  ⟨s.len, fun i u e => by
    have z := s.at_ i u e
    cases u with
    | e => trivial
    | d x => exact z
    | p => exact z
    | m xs =>
      obtain ⟨a, vs, z1, z0, z2⟩ := z
      exact ⟨a, vs, z1, h a z0, z2⟩, s.apart⟩
theorem evar_d (e : EvE K te f) (er : EvAr K tr r) : EvAr K (tCons te tr) (aD f r) := fun ρ π sl π' hf pa H0 F H σ Q w s q => by
  unfold aD at hf
  cases e1 : f ρ π with
  | none => rw [e1] at hf; cases hf
  | some o1 =>
    obtain ⟨x, π1⟩ := o1
    rw [e1] at hf
    simp only [Option.bind_some] at hf
    cases e2 : r ρ π1 with
    | none => rw [e2] at hf; cases hf
    | some o2 =>
      obtain ⟨xs, π2⟩ := o2
      rw [e2] at hf
      cases hf
      refine e ρ π x π1 e1 pa H0 F H σ _ w s fun v F1 H1 p1 r1 => ?_
      refine er ρ π1 xs _ e2 pa H0 F1 H1 σ _ p1.wd (s.post w p1) fun vs F2 H2 p2 s2 => q (v :: vs) F2 H2 (p1.trans w p2) ?_
      exact stok_cons ⟨v, rfl, r1.mono p2.ff⟩ (s2.entry fun a z => p1.fresh z) fun xs j ys z _ => nomatch z
theorem evar_n (e : EvN K te l) (er : EvAr K tr r) : EvAr K (tCons te tr) (aN l r) := fun ρ π sl π' hf pa H0 F H σ Q w s q => by
  unfold aN at hf
  cases e1 : l ρ π with
  | none => rw [e1] at hf; cases hf
  | some o1 =>
    obtain ⟨x, π1⟩ := o1
    rw [e1] at hf
    simp only [Option.bind_some] at hf
    cases e2 : r ρ π1 with
    | none => rw [e2] at hf; cases hf
    | some o2 =>
      obtain ⟨xs, π2⟩ := o2
      rw [e2] at hf
      cases hf
      refine e ρ π x π1 e1 pa H0 F H σ _ w s fun a us F1 H1 p1 ha hF hp hH r1 => ?_
      refine er ρ π1 xs _ e2 pa H0 F1 H1 σ _ p1.wd (s.post w p1) fun vs F2 H2 p2 s2 => q (.ref a :: vs) F2 H2 (p1.trans w p2) ?_
      have hF2 : F2 a = none := by
        cases z : F2 a with
        | none => rfl
        | some o =>
          rcases p2.new a o z with y | y
          · rw [hF] at y; cases y
          · rw [hH] at y; cases y
      refine stok_cons ⟨a, us, rfl, ha, hF2, hp, p2.keep a _ hH hp, r1.mono p2.ff⟩ (s2.entry fun a z => p1.fresh z) fun xs j ys _ ej z => ?_
      obtain ⟨b, ws, z1, z0, _⟩ := s2.at_ j _ ej
      rw [← z] at z1
      cases z1
      rw [hH] at z0
      cases z0
theorem evar_p {i : Nat} (er : EvAr K tr r) : EvAr K (tCons (tVar i) tr) (aP i r) := fun ρ π sl π' hf pa H0 F H σ Q w s q => by
  unfold aP at hf
  split at hf
  · rename_i ei
    cases e2 : r ρ π with
    | none => rw [e2] at hf; cases hf
    | some o2 =>
      obtain ⟨xs, π2⟩ := o2
      rw [e2] at hf
      cases hf
      obtain ⟨a, ea, ep⟩ := s.pot ei
      refine ⟨.ref a, ea, er ρ π xs _ e2 pa H0 F H σ _ w s fun vs F2 H2 p2 s2 => q (.ref a :: vs) F2 H2 p2 ?_⟩
      exact stok_cons ⟨a, rfl, ep⟩ s2 fun xs j ys z _ => nomatch z
  · cases hf

/-! #### a def's promise -/
/-- a def as a function of its arguments and the pot -/
abbrev MF := List Sl → Pt → Option (PyData × Pt)
abbrev MFN := List Sl → Pt → Option (List PyData × Pt)
def SPd (K : PySem.W.Frag) (n : Nat) (m : MF) : List V → Hp → VK → Prop := fun vs H Q => ∃ pa F π sl d π', vs.length = n ∧ Wd pa F H π ∧ StOk K pa H F H (vs.map some) sl ∧ m sl π = some (d, π') ∧ ∀ v F' H', Post pa F H F' H' π' → Rp K F' v d → Q v H'
def SPn (K : PySem.W.Frag) (n : Nat) (m : MFN) : List V → Hp → VK → Prop := fun vs H Q => ∃ pa F π sl ds π', vs.length = n ∧ Wd pa F H π ∧ StOk K pa H F H (vs.map some) sl ∧ m sl π = some (ds, π') ∧
  ∀ a us F' H', Post pa F H F' H' π' → H a = none → F' a = none → pa ≠ some a → H' a = some (.lst us) → RpA K F' us ds → Q (.ref a) H'
/-- the def at f keeps the promise sp; nothing is being shown around it -/
structure FnS (P : Program) (w : World) (K : PySem.W.Frag) (mg : Str → Option Value) (base : Heap) (k : Nat) (f : Addr) (fd : FuncData) (ps : List Str) (sp : List V → Hp → VK → Prop) : Prop where
  len : ∀ vs H Q, sp vs H Q → vs.length = ps.length
  run : ∀ (A : Around) (outer : List Env) (s : Shared) (H : Hp) (args : Args) (us : List Value) (vs : List V) (Q : VK), Room k A → A.guards = some [] → Env0 P w K mg base A outer s H → BindsTo s fd args (ps.zip us) → Vals vs us → sp vs H Q →
    codeAny (model P w) A (.call (.ref f) args) (CR CX0 outer P w H s Q E0) s
end

section
variable {P : Program} {w : World} {K : PySem.W.Frag} {mg : Str → Option Value} {base : Heap}
theorem FnS.mono {j k : Nat} {f : Addr} {fd : FuncData} {ps : List Str} {sp : List V → Hp → VK → Prop} (F : FnS P w K mg base j f fd ps sp) (h : j ≤ k) : FnS P w K mg base k f fd ps sp :=
  ⟨F.len, fun A outer s H args us vs Q hr => F.run A outer s H args us vs Q (hr.mono h)⟩
/-- a def of the text keeps a promise by its body -/
theorem fnS_of {x qual : Str} {params : Arguments} {body : List Stmt} {scope : Scope} {kws : List (Str × V)} {f : Addr} {fd : FuncData} {N ps : List Str} {k : Nat} {sp : List V → Hp → VK → Prop} (F : FunD K x qual params body scope [] kws f fd) (S : FnScope N ps scope)
    (len : ∀ vs H Q, sp vs H Q → vs.length = ps.length)
    (hb : ∀ (cdv : Value) (A : Around) (outer : List Env) (s : Shared) (H : Hp) (vs : List V) (Q : VK), Room k (A.deeper (envOfC qual scope s.heap.objs.size f cdv)) → (A.deeper (envOfC qual scope s.heap.objs.size f cdv)).guards = some [] → sp vs H Q →
      ∃ t, PSs (cxOf CX0 P w K mg base N qual scope f cdv A outer s H E0).nox body t ∧ t { nx := fun _ H' => Q .non H', rt := Q } (start N vs) H) : FnS P w K mg base (k + 1) f fd ps sp := by
  obtain ⟨oc, od, dV, kV, doc, pm, an, cdv, ct, osl, rfl, lk, hcd, _, _⟩ := F.ex
  refine ⟨len, fun A outer s H args us vs Q hr hg e0 hbind r hsp => ?_⟩
  have hl := len _ _ _ hsp
  have keepB : ∀ b o, base.get? b = some o → s.heap.get? b = some o := fun b o e => (e0.bs b o e).1
  have KX : K.In s.heap := e0.mod.kin.keeps keepB
  refine codeAny_call_function hr.depth (KX _ _ lk) rfl S.co S.gen rfl (PySem.W.codeRec_of KX hcd) (hbind _ _ _ _ ?_)
  refine wpAny_newFunctionEnv_cells S.kind (fun y hy => ?_) fun env he s1 x => ?_
  · obtain ⟨n, v⟩ := y
    rcases S.par n (List.of_mem_zip hy).1 with q | q
    · exact .inl q
    · exact .inr ⟨q, PySem.W.cellsFrom_some _ _ _ (.inl q)⟩
  · subst he
    refine ⟨(e0.mod.nolimit.keeps keepB).keeps x.toInCall.keep, codeAny_func ?_⟩
    obtain ⟨t, ht, hq⟩ := hb cdv A outer s H vs Q (hr.deeper _) hg hsp
    have I : Inv (cxOf CX0 P w K mg base N qual scope f cdv A outer s H E0) [] (start N vs) H s1 := inv_start S hr.hd e0 hl r x
    refine wpAny_mono (ht.nox.run [] s1 (start N vs) H _ I hq) (fun fl s' hs => ?_) fun e s' hs => hs
    cases fl with
    | ret u =>
      obtain ⟨v, σ', H', J, rv, q⟩ := hs
      exact ⟨v, H', J.os, J.bare, J.base, J.hok, rv, q⟩
    | next =>
      obtain ⟨σ', H', J, q⟩ := hs
      exact ⟨.non, H', J.os, J.bare, J.base, J.hok, rfl, q⟩
    | brk =>
      obtain ⟨_, _, _, q⟩ := hs
      exact q.elim
    | cont =>
      obtain ⟨_, _, _, q⟩ := hs
      exact q.elim
end

/-! #### calls -/
section
variable {X : Cx} {k : Nat} {f : Addr} {fd : FuncData} {ps ks : List Str} {sp : List V → Hp → VK → Prop} {x : Str} {p pos : Pos} {e : Expr} {es : List Expr} {kws : List Keyword} {t tk : TA}
def tCl (sp : List V → Hp → VK → Prop) (t : TA) : TE := fun σ H Q => t σ H fun vs H1 => sp vs H1 Q
theorem run_fnS {pins : List (Addr × Obj)} {σ : St} {H : Hp} {s : Shared} {Q : VK} {args : Args} {us : List Value} {vs : List V} (F : FnS X.prog X.w X.K X.mg X.base k f fd ps sp) (hr : Room k X.A) (hg : X.A.guards = some [])
    (I : Inv X pins σ H s) (hb : BindsTo s fd args (ps.zip us)) (r : Vals vs us) (h : sp vs H Q) : codeAny (model X.prog X.w) X.A (.call (.ref f) args) (fun r s' => match r with
      | .ok (.ret u) => EP X pins σ Q u s'
      | .ok _ => False
      | .error e => X.xe e s') s := by
  refine codeAny_mono (F.run X.A X.stack s H args us vs Q hr hg I.env0 hb r h) fun r s' hq => ?_
  cases r with
  | error e => exact hq.elim
  | ok fl =>
    cases fl with
    | ret u => exact I.after hq
    | next => exact hq.elim
    | brk => exact hq.elim
    | cont => exact hq.elim
theorem pe_cl (F : FnS X.prog X.w X.K X.mg X.base k f fd ps sp) (hr : Room k X.A) (hgd : X.A.guards = some []) (hg : Gl X x) (hm : X.mg x = some (.ref f)) (hk : PySem.W.keepIn X.K (.ref f) = true) (hb : Binds X.K fd ps [])
    (ha : PA X (e :: es) t) (hdb : (x == ("__debug__" : Str)) = false := by decide) (he : starEach (e :: es) X.env = (false, eval e X.env) :: starEach es X.env := by rfl) (hpl : (backTo pos (starEach es X.env)).any (·.1) = false := by rfl) :
    PE X (.Call (.Name x p) (e :: es) [] pos) (tCl sp t) := by
  refine ⟨fun pins s σ H Q I h => wpAny_Call_Name_kw (ld_glob I hg hm ?_ hdb)⟩
  refine PySem.W.callWith_K (h₀ := X.base) I.ok.mod.kin hk (thn (ha.run pos pins s σ H _ I h) fun us s1 ⟨vs, H1, I1, r, q⟩ => ⟨I1.kIn, ?_⟩) he hpl
  have hl : (us ++ []).length = ps.length := by rw [List.append_nil, ← r.length]; exact F.len _ _ _ q
  have b := hb s1 us I1.kIn hl
  rw [List.append_nil] at b
  refine wpAny_call (codeAny_mono (run_fnS F hr hgd I1 b r q) fun r s' hq => ?_)
  cases r with
  | error e => exact hq
  | ok fl =>
    cases fl with
    | ret u => exact hq
    | next => exact hq.elim
    | brk => exact hq.elim
    | cont => exact hq.elim
/-- how the keywords' values come to the parameters: none ahead of them, their names those of the parameters in turn -/
def KBind (K : PySem.W.Frag) (fd : FuncData) (ps ks : List Str) : Prop := ∀ (s : Shared) (ws : List Value), K.In s.heap → ws.length = ps.length → BindsTo s fd ⟨[], ks.zip ws⟩ (ps.zip ws)
theorem pe_clK (F : FnS X.prog X.w X.K X.mg X.base k f fd ps sp) (hr : Room k X.A) (hgd : X.A.guards = some []) (hg : Gl X x) (hm : X.mg x = some (.ref f)) (hk : PySem.W.keepIn X.K (.ref f) = true) (hb : KBind X.K fd ps ks)
    (hkw : PK X kws tk) (hall : (backToKw pos (keywordEach kws X.env)).all (·.1.isSome) = true := by rfl) (hks : (backToKw pos (keywordEach kws X.env)).filterMap (·.1) = ks := by rfl)
    (hdb : (x == ("__debug__" : Str)) = false := by decide) (hpl : ((backTo pos (starEach [] X.env)).any (·.1) || (backToKw pos (keywordEach kws X.env)).any (·.1.isNone)) = false := by rfl) :
    PE X (.Call (.Name x p) [] kws pos) (tCl sp tk) := by
  refine ⟨fun pins s σ H Q I h => wpAny_Call_Name_kw (ld_glob I hg hm ?_ hdb)⟩
  refine PySem.W.callWith_KW0 (h₀ := X.base) I.ok.mod.kin hk hall (thn (hkw.run pos pins s σ H _ I h) fun ws s1 ⟨zs, H1, I1, r, q⟩ => ⟨I1.kIn, ?_⟩) hpl
  rw [hks]
  have hl : ws.length = ps.length := by rw [← r.length]; exact F.len _ _ _ q
  refine wpAny_call (codeAny_mono (run_fnS F hr hgd I1 (hb s1 ws I1.kIn hl) r q) fun r s' hq => ?_)
  cases r with
  | error e => exact hq
  | ok fl =>
    cases fl with
    | ret u => exact hq
    | next => exact hq.elim
    | brk => exact hq.elim
    | cont => exact hq.elim
end
section
variable {K : PySem.W.Frag} {te : TE} {tr : TA} {f : MX} {r : MA} {n : Nat}
/-- neither unknown nor an own list -/
def Sl.dp : Sl → Bool
  | .d _ => true
  | .p => true
  | _ => false
theorem StOk.call {pa : Option Addr} {H1 H2 F H : Hp} {σ : St} {ρ : Ev} (s : StOk K pa H1 F H σ ρ) (h : ρ.all Sl.dp = true) : StOk K pa H2 F H σ ρ :=
  ⟨s.len, fun i u e => by
    have z := s.at_ i u e
    cases u with
    | e => trivial
    | d x => exact z
    | p => exact z
    | m xs =>
      have q := (List.all_eq_true.mp h) _ (List.mem_of_getElem? e)
      exact absurd q Bool.false_ne_true, s.apart⟩
def fCl (n : Nat) (m : MF) (r : MA) : MX := fun ρ π => (r ρ π).bind fun (sl, π1) => if sl.length = n ∧ sl.all Sl.dp = true then m sl π1 else none
theorem ev_cl {m : MF} (er : EvAr K tr r) : EvE K (tCl (SPd K n m) tr) (fCl n m r) := fun ρ π d π' hf pa H0 F H σ Q w s q => by
  unfold fCl at hf
  cases e1 : r ρ π with
  | none => rw [e1] at hf; cases hf
  | some o1 =>
    obtain ⟨sl, π1⟩ := o1
    rw [e1] at hf
    simp only [Option.bind_some] at hf
    split at hf
    · rename_i hn
      refine er ρ π sl π1 e1 pa H0 F H σ _ w s fun vs F1 H1 p1 s1 => ?_
      exact ⟨pa, F1, π1, sl, d, π', by rw [← hn.1, ← s1.len, List.length_map], p1.wd, s1.call hn.2, hf, fun v F' H' p2 r2 => q v F' H' (p1.trans w p2) r2⟩
    · cases hf
def fClN (n : Nat) (m : MFN) (r : MA) : ML := fun ρ π => (r ρ π).bind fun (sl, π1) => if sl.length = n ∧ sl.all Sl.dp = true then m sl π1 else none
theorem ev_clN {m : MFN} (er : EvAr K tr r) : EvN K (tCl (SPn K n m) tr) (fClN n m r) := fun ρ π d π' hf pa H0 F H σ Q w s q => by
  unfold fClN at hf
  cases e1 : r ρ π with
  | none => rw [e1] at hf; cases hf
  | some o1 =>
    obtain ⟨sl, π1⟩ := o1
    rw [e1] at hf
    simp only [Option.bind_some] at hf
    split at hf
    · rename_i hn
      refine er ρ π sl π1 e1 pa H0 F H σ _ w s fun vs F1 H1 p1 s1 => ?_
      exact ⟨pa, F1, π1, sl, d, π', by rw [← hn.1, ← s1.len, List.length_map], p1.wd, s1.call hn.2, hf, fun a us F' H' p2 ha hF hp hH r2 => q a us F' H' (p1.trans w p2) (p1.fresh ha) hF hp hH r2⟩
    · cases hf

/-! #### the body of a def -/
/-- the entry's slots -/
def entry (N : Nat) (sl : List Sl) : Ev := sl ++ List.replicate (N - sl.length) .e
theorem stok_entry {pa : Option Addr} {H0 F H : Hp} {N : List Str} {vs : List V} {sl : List Sl} (s : StOk K pa H0 F H (vs.map some) sl) : StOk K pa H0 F H (L2.start N vs) (entry N.length sl) := by
  have hl : vs.length = sl.length := by rw [← s.len, List.length_map]
  have old : ∀ {i : Nat} {u : Sl}, (entry N.length sl)[i]? = some u → u ≠ .e → sl[i]? = some u ∧ (L2.start N vs).getD i none = (vs.map some).getD i none := fun {i u} e ne => by
    unfold entry at e
    by_cases hi : i < sl.length
    · rw [List.getElem?_append_left hi] at e
      refine ⟨e, ?_⟩
      unfold L2.start
      rw [List.getD_eq_getElem?_getD, List.getD_eq_getElem?_getD, List.getElem?_append_left (by rw [List.length_map, hl]; exact hi)]
    · rw [List.getElem?_append_right (by omega), List.getElem?_replicate] at e
      split at e
      · cases e; exact absurd rfl ne
      · cases e
  refine ⟨?_, fun i u e => ?_, fun i j xs ys ne e1 e2 => ?_⟩
  · unfold L2.start entry
    rw [List.length_append, List.length_append, List.length_map, List.length_replicate, List.length_replicate, hl]
  · by_cases hu : u = .e
    · subst hu; trivial
    · obtain ⟨e1, e2⟩ := old e hu
      rw [e2]
      exact s.at_ i u e1
  · obtain ⟨q1, z1⟩ := old e1 (fun z => nomatch z)
    obtain ⟨q2, z2⟩ := old e2 (fun z => nomatch z)
    rw [z1, z2]
    exact s.apart i j xs ys ne q1 q2
/-- what a body gives: its return's datum, None at its end -/
def asRt : Option (Out × Pt) → Option (PyData × Pt)
  | some (.rt d, π) => some (d, π)
  | some (.nx _, π) => some (.none, π)
  | _ => none
def mOf (N : Nat) (g : MS) : MF := fun sl π => asRt (g (entry N sl) π)
theorem body_ok {ts : TS} {g : MS} {N : List Str} {n : Nat} (e : EvS K ts g) {vs : List V} {H : Hp} {Q : VK} (h : SPd K n (mOf N.length g) vs H Q) : ts { nx := fun _ H' => Q .non H', rt := Q } (L2.start N vs) H := by
  obtain ⟨pa, F, π, sl, d, π', hl, w, s, hm, q⟩ := h
  unfold mOf at hm
  cases hg : g (entry N.length sl) π with
  | none => rw [hg] at hm; cases hm
  | some r =>
    obtain ⟨o, π1⟩ := r
    rw [hg] at hm
    refine e _ π o π1 hg pa F H pa F H (start N vs) _ ⟨EndS.start w, stok_entry s⟩ ?_
    cases o with
    | nx ρ' => cases hm; exact fun pa' F' H' σ' i z => q .non F' H' i.e.post .non
    | rt d' => cases hm; exact fun pa' F' H' v i r z => q v F' H' i.post r
    | bk ρ' => cases hm
    | ct ρ' => cases hm
/-- a def whose body is one return of a new list -/
def mOfN (N : Nat) (l : ML) : MFN := fun sl π => l (entry N sl) π
theorem body_okN {te : TE} {l : ML} {N : List Str} {n : Nat} (e : EvN K te l) {vs : List V} {H : Hp} {Q : VK} (h : SPn K n (mOfN N.length l) vs H Q) : tRet te { nx := fun _ H' => Q .non H', rt := Q } (L2.start N vs) H := by
  obtain ⟨pa, F, π, sl, ds, π', hl, w, s, hm, q⟩ := h
  exact e _ π ds π' hm pa H F H (start N vs) _ w (stok_entry s) fun a us F' H' p ha hF hp hH r => q a us F' H' p ha hF hp hH r

/-! #### the pot -/
def fPot (i : Nat) (k : Int) : MX := fun ρ π => match ρ[i]? with
  | some .p => if k = 0 then some (.int π.1, π) else if k = 1 then some (.int π.2, π) else none
  | _ => none
theorem ev_pot {i : Nat} {k : Int} : EvE K (tOp (rIx K) (tVar i) (tC (.int k))) (fPot i k) := fun ρ π d π' hf pa H0 F H σ Q w s q => by
  unfold fPot at hf
  split at hf
  · rename_i ei
    obtain ⟨a, ea, ep⟩ := s.pot ei
    obtain ⟨_, hp⟩ := w.pot a ep
    split at hf
    · rename_i hk
      cases hf
      subst hk
      exact ⟨.ref a, ea, .inl ⟨a, _, 0, .int π.1, rfl, rfl, .inl (.inl hp), rfl, q _ F H (.refl w) (.int _)⟩⟩
    · split at hf
      · rename_i hk
        cases hf
        subst hk
        exact ⟨.ref a, ea, .inl ⟨a, _, 1, .int π.2, rfl, rfl, .inl (.inl hp), rfl, q _ F H (.refl w) (.int _)⟩⟩
      · cases hf
  · cases hf
/-- the pot's number k is written -/
theorem Wd.potSet {a : Addr} {F H : Hp} {π π' : Pt} (w : Wd (some a) F H π) : Post (some a) F H F (upd H a (.lst [.int π'.1, .int π'.2])) π' where
  ff := Same.refl _
  wd := by
    obtain ⟨q1, q2⟩ := w.pot a rfl
    refine ⟨same_upd2 w.same q1, ?_, fun c z => ?_⟩
    · obtain ⟨u, e, r⟩ := w.sys
      exact ⟨u, by rw [upd_ne (fun z => w.pa_sys (by rw [z]))]; exact e, r⟩
    · cases z; exact ⟨q1, upd_same⟩
  keep := fun b o e n => by rw [upd_ne (fun z => n (by rw [z]))]; exact e
  new := fun b o e => .inl e
def gPot (i : Nat) (k : Int) : PyData → Ev → Pt → Option Pt := fun x ρ π => match ρ[i]?, x with
  | some .p, .int v => if k = 0 then some (v, π.2) else if k = 1 then some (π.1, v) else none
  | _, _ => none
def sPot (i : Nat) (k : Int) (f : MX) : MS := fun ρ π => (f ρ π).bind fun (x, π1) => (gPot i k x ρ π1).map fun π2 => (.nx ρ, π2)
theorem potSet {pa : Option Addr} {H0 F H : Hp} {π π' : Pt} {σ : St} {ρ : Ev} {i : Nat} {k : Int} {x : PyData} {v : V} {R : Hp → Prop} (w : Wd pa F H π) (s : StOk K pa H0 F H σ ρ) (e : gPot i k x ρ π = some π') (r : Rp K F v x)
    (h : ∀ H', Post pa F H F H' π' → R H') : tVar i σ H fun o H1 => tC (.int k) σ H1 fun j H2 => rSetL o j v H2 R := by
  unfold gPot at e
  split at e
  · rename_i u ei
    obtain ⟨a, ea, ep⟩ := s.pot ei
    subst ep
    obtain ⟨q1, q2⟩ := w.pot a rfl
    split at e
    · rename_i hk
      cases e
      subst hk
      refine ⟨.ref a, ea, a, _, 0, 0, rfl, rfl, q2, rfl, ?_⟩
      rw [r.int_inv]
      exact h _ (w.potSet (π' := (_, _)))
    · split at e
      · rename_i hk
        cases e
        subst hk
        refine ⟨.ref a, ea, a, _, 1, 1, rfl, rfl, q2, rfl, ?_⟩
        rw [r.int_inv]
        exact h _ (w.potSet (π' := (π.1, u)))
      · cases e
  · cases e
theorem evs_pot {i : Nat} {k : Int} (e : EvE K te f) : EvS K (tAsg te (gSub (tVar i) (tC (.int k)) rSetL)) (sPot i k f) := fun ρ π o π' hf pa0 F0 H0 pa F H σ D iv q => by
  unfold sPot at hf
  cases ef : f ρ π with
  | none => rw [ef] at hf; cases hf
  | some r =>
    obtain ⟨x, π1⟩ := r
    rw [ef] at hf
    simp only [Option.bind_some] at hf
    cases eg : gPot i k x ρ π1 with
    | none => rw [eg] at hf; cases hf
    | some π2 =>
      rw [eg] at hf
      cases hf
      refine e ρ π x π1 ef pa H0 F H σ _ iv.e.wd iv.s fun v F1 H1 p1 r1 => ?_
      have iv1 := iv.step p1
      exact potSet iv1.e.wd iv1.s eg r1 fun H' p2 => q pa F1 H' σ (iv1.step p2) p1.ff
/-- pot[k], name = a pair -/
def sPotN (i : Nat) (k : Int) (j : Nat) (f : MX) : MS := fun ρ π => (f ρ π).bind fun (x, π1) => match x with
  | .tuple [y, z] => (gPot i k y ρ π1).map fun π2 => (.nx (ρ.set j (.d z)), π2)
  | _ => none
theorem evs_potN {i j : Nat} {k : Int} (e : EvE K te f) : EvS K (tAsg te (gTup K 2 (gCons (gSub (tVar i) (tC (.int k)) rSetL) (gCons (gName j) gNil)))) (sPotN i k j f) := fun ρ π o π' hf pa0 F0 H0 pa F H σ D iv q => by
  unfold sPotN at hf
  cases ef : f ρ π with
  | none => rw [ef] at hf; cases hf
  | some r =>
    obtain ⟨x, π1⟩ := r
    rw [ef] at hf
    simp only [Option.bind_some] at hf
    split at hf
    · rename_i y z
      cases eg : gPot i k y ρ π1 with
      | none => rw [eg] at hf; cases hf
      | some π2 =>
        rw [eg] at hf
        cases hf
        refine e ρ π _ π1 ef pa H0 F H σ _ iv.e.wd iv.s fun v F1 H1 p1 r1 => ?_
        have iv1 := iv.step p1
        obtain ⟨a, us, rfl, hs, ra⟩ := r1.tup_inv
        cases ra with
        | cons ry t =>
          cases t with
          | cons rz t2 =>
            cases t2
            refine ⟨a, _, rfl, seqT_mono p1.wd.same hs, rfl, _, _, rfl, ?_⟩
            refine potSet iv1.e.wd iv1.s eg ry fun H' p2 => ⟨_, [], rfl, rfl, ?_⟩
            have iv2 := iv1.step p2
            exact q pa F1 H' _ ⟨iv2.e, iv2.s.setD rz⟩ p1.ff
    · cases hf

/-- names = the items of a tuple -/
def sUnp (t : MG) (f : MX) : MS := fun ρ π => (f ρ π).bind fun (x, π1) => (t x ρ).map fun ρ1 => (.nx ρ1, π1)
theorem evs_unp {g : TG} {vs : List Nat} {t : MG} (e : EvE K te f) (eg : EvG K g vs t) : EvS K (tAsg te g) (sUnp t f) := fun ρ π o π' hf pa0 F0 H0 pa F H σ D iv q => by
  unfold sUnp at hf
  cases ef : f ρ π with
  | none => rw [ef] at hf; cases hf
  | some r =>
    obtain ⟨x, π1⟩ := r
    rw [ef] at hf
    simp only [Option.bind_some] at hf
    cases et : t x ρ with
    | none => rw [et] at hf; cases hf
    | some ρ1 =>
      rw [et] at hf
      cases hf
      refine e ρ π x _ ef pa H0 F H σ _ iv.e.wd iv.s fun v F1 H1 p1 r1 => ?_
      have iv1 := iv.step p1
      exact eg x ρ ρ1 et pa H0 F1 H1 _ σ v _ iv1.e.wd iv1.s r1 fun σ' s' _ => q pa F1 H1 σ' ⟨iv1.e, s'⟩ p1.ff
/-- a slot's content moves to a name -/
theorem StOk.put {pa : Option Addr} {H0 F H : Hp} {σ : St} {ρ : Ev} {i : Nat} {v : V} {u : Sl} (s : StOk K pa H0 F H σ ρ) (h : SlOk K pa H0 F H (some v) u) (hu : u ≠ .p)
    (ap : ∀ xs, u = .m xs → ∀ j ys, j ≠ i → ρ[j]? = some (.m ys) → σ.getD j none ≠ some v) : StOk K pa H0 F H (σ.set i (some v)) (ρ.set i u) := by
  cases u with
  | e => exact s.setE
  | d x =>
    obtain ⟨v', e, r⟩ := h
    cases e
    exact s.setD r
  | m xs =>
    obtain ⟨a, vs, e, h0, h1, h2, h3, h4⟩ := h
    cases e
    exact s.setM h0 h1 h2 h3 h4 (ap xs rfl)
  | p => exact absurd rfl hu
def notP : Sl → Bool
  | .p => false
  | _ => true
/-- a, b = x, y -/
def sPar (i j : Nat) (r : MA) : MS := fun ρ π => (r ρ π).bind fun (sl, π1) => match sl with
  | [u, v] => if notP u = true ∧ notP v = true ∧ i ≠ j then some (.nx ((ρ.set i u).set j v), π1) else none
  | _ => none
theorem par_apart {pa : Option Addr} {H0 H F F' H' : Hp} {π : Pt} {σ : St} {ρ : Ev} {vs : List V} {sl : List Sl} (w : Wd pa F H π) (s : StOk K pa H0 F H σ ρ) (s1 : StOk K pa H F' H' (vs.map some) sl) {k : Nat} {xs : List PyData} {v : V} (hk : sl[k]? = some (.m xs)) (hv : vs[k]? = some v) :
    ∀ j ys, ρ[j]? = some (.m ys) → σ.getD j none ≠ some v := fun j ys e z => by
  obtain ⟨a, us, e1, h0, _⟩ := s1.at_ k _ hk
  rw [List.getD_eq_getElem?_getD, List.getElem?_map, hv] at e1
  have e1 : some v = some (.ref a) := e1
  cases e1
  obtain ⟨b, ws, e2, _, _, _, h3, _⟩ := s.at_ j _ e
  rw [z] at e2
  cases e2
  rw [h0] at h3
  cases h3
theorem evs_par {i j : Nat} (er : EvAr K tr r) : EvS K (tPar i j tr) (sPar i j r) := fun ρ π o π' hf pa0 F0 H0 pa F H σ D iv q => by
  unfold sPar at hf
  cases e1 : r ρ π with
  | none => rw [e1] at hf; cases hf
  | some o1 =>
    obtain ⟨sl, π1⟩ := o1
    rw [e1] at hf
    simp only [Option.bind_some] at hf
    split at hf
    · rename_i u v
      split at hf
      · rename_i hn
        cases hf
        refine er ρ π _ _ e1 pa H0 F H σ _ iv.e.wd iv.s fun vs F1 H1 p1 s1 => ?_
        have hl := s1.len
        rw [List.length_map] at hl
        obtain ⟨x, y, rfl⟩ : ∃ x y, vs = [x, y] := by
          match vs, hl with
          | [x, y], _ => exact ⟨x, y, rfl⟩
        have iv1 := iv.step p1
        have s2 := s1.entry (H2 := H0) fun a z => iv.e.fresh z
        have hu : u ≠ .p := fun z => by rw [z] at hn; exact nomatch hn.1
        have hv : v ≠ .p := fun z => by rw [z] at hn; exact nomatch hn.2.1
        refine ⟨x, y, rfl, q pa F1 H1 _ ⟨iv1.e, ?_⟩ p1.ff⟩
        have st1 := iv1.s.put (i := i) (v := x) (s2.at_ 0 u rfl) hu fun xs eu l ys _ el => par_apart iv.e.wd iv.s s1 (k := 0) (by rw [eu]; rfl) rfl l ys el
        refine st1.put (s2.at_ 1 v rfl) hv fun xs ev l ys hlj el => ?_
        by_cases hil : i = l
        · subst hil
          have hi : i < ρ.length := Nat.lt_of_not_le fun z => by rw [List.getElem?_eq_none (by rw [List.length_set]; exact z)] at el; cases el
          rw [List.getElem?_set_self hi] at el
          cases el
          rw [List.getD_eq_getElem?_getD, List.getElem?_set_self (by rw [iv1.s.len]; exact hi)]
          exact s1.apart 0 1 ys xs (by decide) rfl (by rw [ev]; rfl)
        · rw [List.getElem?_set_ne hil] at el
          rw [List.getD_eq_getElem?_getD, List.getElem?_set_ne hil, ← List.getD_eq_getElem?_getD]
          exact par_apart iv.e.wd iv.s s1 (k := 1) (by rw [ev]; rfl) rfl l ys el
      · cases hf
    · cases hf
/-- a, b, c = x, y, z -/
def sPar3 (i j l : Nat) (r : MA) : MS := fun ρ π => (r ρ π).bind fun (sl, π1) => match sl with
  | [u, v, t] => if (notP u = true ∧ notP v = true ∧ notP t = true) ∧ i ≠ j ∧ i ≠ l ∧ j ≠ l then some (.nx (((ρ.set i u).set j v).set l t), π1) else none
  | _ => none
theorem evs_par3 {i j l : Nat} (er : EvAr K tr r) : EvS K (tPar3 i j l tr) (sPar3 i j l r) := fun ρ π o π' hf pa0 F0 H0 pa F H σ D iv q => by
  unfold sPar3 at hf
  cases e1 : r ρ π with
  | none => rw [e1] at hf; cases hf
  | some o1 =>
    obtain ⟨sl, π1⟩ := o1
    rw [e1] at hf
    simp only [Option.bind_some] at hf
    split at hf
    · rename_i u v t
      split at hf
      · rename_i hn
        cases hf
        refine er ρ π _ _ e1 pa H0 F H σ _ iv.e.wd iv.s fun vs F1 H1 p1 s1 => ?_
        have hl := s1.len
        rw [List.length_map] at hl
        obtain ⟨x, y, z, rfl⟩ : ∃ x y z, vs = [x, y, z] := by
          match vs, hl with
          | [x, y, z], _ => exact ⟨x, y, z, rfl⟩
        have iv1 := iv.step p1
        have s2 := s1.entry (H2 := H0) fun a z => iv.e.fresh z
        have hu : u ≠ .p := fun z => by rw [z] at hn; exact nomatch hn.1.1
        have hv : v ≠ .p := fun z => by rw [z] at hn; exact nomatch hn.1.2.1
        have ht : t ≠ .p := fun z => by rw [z] at hn; exact nomatch hn.1.2.2
        obtain ⟨_, hij, hil, hjl⟩ := hn
        refine ⟨x, y, z, rfl, q pa F1 H1 _ ⟨iv1.e, ?_⟩ p1.ff⟩
        have old0 : ∀ {k : Nat} {xs : List PyData} {w' : V}, [u, v, t][k]? = some (.m xs) → [x, y, z][k]? = some w' → ∀ m ys, ρ[m]? = some (.m ys) → σ.getD m none ≠ some w' := fun {k xs w'} h1 h2 m ys el => par_apart iv.e.wd iv.s s1 h1 h2 m ys el
        have st1 := iv1.s.put (i := i) (v := x) (s2.at_ 0 u rfl) hu fun xs eu m ys _ el => old0 (k := 0) (by rw [eu]; rfl) rfl m ys el
        have in_i : ∀ {ys : List PyData}, (ρ.set i u)[i]? = some (.m ys) → u = .m ys ∧ i < σ.length := fun {ys} el => by
          have hi : i < ρ.length := Nat.lt_of_not_le fun z => by rw [List.getElem?_eq_none (by rw [List.length_set]; exact z)] at el; cases el
          rw [List.getElem?_set_self hi] at el
          cases el
          exact ⟨rfl, by rw [iv1.s.len]; exact hi⟩
        have st2 := st1.put (i := j) (v := y) (s2.at_ 1 v rfl) hv fun xs ev m ys hmj el => by
          by_cases him : i = m
          · subst him
            obtain ⟨eu, hi⟩ := in_i el
            rw [List.getD_eq_getElem?_getD, List.getElem?_set_self hi]
            exact s1.apart 0 1 ys xs (by decide) (by rw [eu]; rfl) (by rw [ev]; rfl)
          · rw [List.getElem?_set_ne him] at el
            rw [List.getD_eq_getElem?_getD, List.getElem?_set_ne him, ← List.getD_eq_getElem?_getD]
            exact old0 (k := 1) (by rw [ev]; rfl) rfl m ys el
        refine st2.put (s2.at_ 2 t rfl) ht fun xs et m ys hml el => ?_
        by_cases hjm : j = m
        · subst hjm
          have hj : j < (ρ.set i u).length := Nat.lt_of_not_le fun z => by rw [List.getElem?_eq_none (by rw [List.length_set]; exact z)] at el; cases el
          rw [List.getElem?_set_self hj] at el
          cases el
          rw [List.getD_eq_getElem?_getD, List.getElem?_set_self (by rw [st1.len]; exact hj)]
          exact s1.apart 1 2 ys xs (by decide) rfl (by rw [et]; rfl)
        · rw [List.getElem?_set_ne hjm] at el
          rw [List.getD_eq_getElem?_getD, List.getElem?_set_ne hjm, ← List.getD_eq_getElem?_getD]
          by_cases him : i = m
          · subst him
            obtain ⟨eu, hi⟩ := in_i el
            rw [List.getD_eq_getElem?_getD, List.getElem?_set_self hi]
            exact s1.apart 0 2 ys xs (by decide) (by rw [eu]; rfl) (by rw [et]; rfl)
          · rw [List.getElem?_set_ne him] at el
            rw [List.getD_eq_getElem?_getD, List.getElem?_set_ne him, ← List.getD_eq_getElem?_getD]
            exact old0 (k := 2) (by rw [et]; rfl) rfl m ys el
      · cases hf
    · cases hf

/-! #### while -/
def whM (b : MT) (g : MS) : Nat → Ev → Pt → Option (Out × Pt)
  | 0, _, _ => none
  | n + 1, ρ, π => (b ρ π).bind fun (k, π1) => if k = true then (g ρ π1).bind fun (o, π2) => match o with
      | .nx ρ2 => whM b g n ρ2 π2
      | .ct ρ2 => whM b g n ρ2 π2
      | .bk ρ2 => some (.nx ρ2, π2)
      | .rt d => some (.rt d, π2)
    else some (.nx ρ, π1)
theorem evs_while {tt : TT} {ts : TS} {b : MT} {g : MS} (n : Nat) (et : EvT K tt b) (eb : EvS K ts g) : EvS K (tWhile tt ts) (whM b g n) := fun ρ π o π' hf pa0 F0 H0 pa F H σ D iv q => by
  refine ⟨fun m σc Hc => ∃ (pc : Option Addr) (Fc : Hp) (ρc : Ev) (πc : Pt), InvS K pa0 F0 H0 pc Fc Hc πc σc ρc ∧ Same F Fc ∧ whM b g m ρc πc = some (o, π'), ⟨n, pa, F, ρ, π, iv, Same.refl _, hf⟩, ?_⟩
  rintro m σc Hc ⟨pc, Fc, ρc, πc, ivc, sc, hm⟩
  cases m with
  | zero => cases hm
  | succ m =>
    unfold whM at hm
    cases e1 : b ρc πc with
    | none => rw [e1] at hm; cases hm
    | some r =>
      obtain ⟨k, π1⟩ := r
      rw [e1] at hm
      simp only [Option.bind_some] at hm
      refine et ρc πc k π1 e1 pc H0 Fc Hc σc _ ivc.e.wd ivc.s fun F1 H1 p1 => ?_
      have iv1 := ivc.step p1
      have sc1 := sc.trans p1.ff
      cases k with
      | false =>
        rw [if_neg Bool.false_ne_true] at hm ⊢
        cases hm
        exact q pc F1 H1 σc iv1 sc1
      | true =>
        rw [if_pos rfl] at hm ⊢
        refine ⟨fun σn Hn => ∃ (pc : Option Addr) (Fc : Hp) (ρc : Ev) (πc : Pt), InvS K pa0 F0 H0 pc Fc Hn πc σn ρc ∧ Same F Fc ∧ whM b g m ρc πc = some (o, π'), fun σn Hn hn => ⟨m, Nat.lt_succ_self m, hn⟩, ?_⟩
        cases e2 : g ρc π1 with
        | none => rw [e2] at hm; cases hm
        | some r2 =>
          obtain ⟨o2, π2⟩ := r2
          rw [e2] at hm
          simp only [Option.bind_some] at hm
          refine eb ρc π1 o2 π2 e2 pa0 F0 H0 pc F1 H1 σc _ iv1 ?_
          cases o2 with
          | nx ρ2 => exact fun pd Fd Hd σd ivd sd => ⟨pd, Fd, ρ2, π2, ivd, sc1.trans sd, hm⟩
          | ct ρ2 => exact fun pd Fd Hd σd ivd sd => ⟨pd, Fd, ρ2, π2, ivd, sc1.trans sd, hm⟩
          | bk ρ2 => cases hm; exact fun pd Fd Hd σd ivd sd => q pd Fd Hd σd ivd (sc1.trans sd)
          | rt d => cases hm; exact fun pd Fd Hd v ivd r sd => q pd Fd Hd v ivd r (sc1.trans sd)
end
end DL

set_option maxHeartbeats 2000000
namespace DL
open PySem PySem.Spec PyProof.Rows L2
set_option autoImplicit false

def sysB : Option Obj → Bool
  | some ⟨_, _, .dict _ _, _⟩ => true
  | _ => false
theorem sysB_ok {o : Option Obj} (h : sysB o = true) : ∃ ob es n, o = some ob ∧ ob.data = .dict es n := by
  unfold sysB at h
  split at h
  · rename_i c d es n sl
    exact ⟨_, es, n, rfl, rfl⟩
  · cases h
abbrev AlS : Type := (Bool × Bool) × He.AlD
def obsSG (n : Nat) (fa : List He.Fa) (fn : List He.DefD) (g : Addr → Option Obj) : AlS := ((sysB (g sysModules), ((He.frG g (He.asD g n)).lookup sysModules).isNone), He.obsDG n fa fn g)
def hookS (n : Nat) (fa : List He.Fa) (fn : List He.DefD) : PySem.W.Hook where
  α := AlS
  obs := fun s => obsSG n fa fn s.heap.get?
  val := fun _ => ((true, true), He.valD fn)
  says := fun _ h => (∃ ob es n, h.get? sysModules = some ob ∧ ob.data = .dict es n) ∧ ∃ K : PySem.W.Frag, K.In h ∧ He.SaysD fa fn K ∧ K.lookup sysModules = none
  of := fun _ s e => by
    have e1 : sysB (s.heap.get? sysModules) = true := congrArg (fun z : AlS => z.1.1) e
    have e2 : ((He.frG s.heap.get? (He.asD s.heap.get? n)).lookup sysModules).isNone = true := congrArg (fun z : AlS => z.1.2) e
    have e3 : He.SaysD fa fn (He.frG s.heap.get? (He.asD s.heap.get? n)) := congrArg (fun z : AlS => z.2) e
    exact ⟨sysB_ok e1, _, He.frG_in, e3, Option.isNone_iff_eq_none.mp e2⟩
  keeps := fun _ _ _ ⟨⟨ob, es, n, h1, h2⟩, K, hK, c, z⟩ k => ⟨⟨ob, es, n, k _ _ h1, h2⟩, K, PySem.W.Frag.In.keeps hK k, c, z⟩
theorem obsSG_eq {n : Nat} {fa : List He.Fa} {fn : List He.DefD} {g : Addr → Option Obj} {s : Shared} (h : ∀ a, g a = s.heap.get? a) : obsSG n fa fn g = (hookS n fa fn).obs s := by
  have e : g = s.heap.get? := funext h
  rw [e] <;> rfl

theorem law_callS {P : Program} {w : World} {K : PySem.W.Frag} {mg mb : Str → Option Value} {k : Nat} {fA a : Addr} {fd : FuncData} {x : Str} {m : MF} {s₁ : Shared} {vs : List Value} {ns : List Int} {π' : Pt}
    (KX : K.In s₁.heap) (hns : s₁.heap.Ns mainGlobals mg) (hb : s₁.heap.Ns builtinsNs mb) (hbb : ∀ x : Str, x ≠ "__name__" → mb x = bootBuiltins x) (hlim : s₁.heap.NoLimit) (hg : s₁.gens = #[])
    (ha : s₁.heap.get? a = some { cls := .type "list", data := .seq vs.toArray }) (hi : IntsAre vs ns) (hl : ns.length ≤ sizeLine) (hr : Room k callerA)
    (hsys : ∃ ob es n, s₁.heap.get? sysModules = some ob ∧ ob.data = .dict es n) (hks : K.lookup sysModules = none)
    (F : ∀ base : Heap, K.In base → base.Ns mainGlobals mg → FnS P w K mg base k fA fd [x] (SPd K 1 m)) (hbind : ∀ (s : Shared) (u : Value), BindsTo s fd ⟨[u], []⟩ [(x, u)])
    (hm : m [.d (.list (ns.map PyData.int))] (0, 0) = some (.bool true, π')) :
    codeAny (model P w) callerA (.call (.ref fA) ⟨[.ref a], []⟩) (fun r s' => r = .ok (.ret (.bool true)) ∧ OldK s₁.heap s'.heap ∧ s'.os = s₁.os ∧ AllBare s'.gens) s₁ := by
  have rv := vals_ints hi
  obtain ⟨ob, es, en, hob, hobd⟩ := hsys
  have has : a ≠ sysModules := fun e => by
    rw [e, hob] at ha
    cases ha
    cases hobd
  have notLow : ∀ {b : Addr} {m : Str → Option Value}, s₁.heap.Ns b m → b ≠ a := fun {b m} ⟨o, es, ep, e, d, _⟩ z => by
    rw [z, ha] at e
    cases e
    cases d
  let sO : Obj := { cls := .type "list", data := .seq vs.toArray }
  let H : Hp := fun b => if b = sysModules then some (.frz ob (.ext fun _ => True)) else if b = a ∧ K.lookup a = none then some (.frz sO (.lst (ns.map V.int))) else none
  have Hs : H sysModules = some (.frz ob (.ext fun _ => True)) := if_pos rfl
  have Hn : ∀ b, H b ≠ none → b = sysModules ∨ (b = a ∧ K.lookup a = none) := fun b z => by
    by_cases h1 : b = sysModules
    · exact .inl h1
    · by_cases h2 : b = a ∧ K.lookup a = none
      · exact .inr h2
      · exact absurd (by show (if b = sysModules then _ else if b = a ∧ K.lookup a = none then _ else none) = none; rw [if_neg h1, if_neg h2]) z
  have hok : HOk P w H s₁.heap := fun b u e => by
    by_cases h1 : b = sysModules
    · subst h1
      rw [Hs] at e
      cases e
      exact ⟨hob, trivial, ⟨_, hob⟩, fun _ _ _ _ => trivial⟩
    · have e' : (if b = sysModules then _ else if b = a ∧ K.lookup a = none then some (HO.frz sO (.lst (ns.map V.int))) else none) = some u := e
      rw [if_neg h1] at e'
      split at e'
      · rename_i h2
        cases e'
        rw [h2.1]
        exact ⟨ha, by rw [List.length_map]; exact hl, vs, _, rv, ha⟩
      · cases e'
  have base_of : ∀ {b : Addr} {o : Obj}, s₁.heap.get? b = some o → H b = none → (hidT s₁.heap H).get? b = some o := fun e n => hidT_get e n
  have nsK : ∀ {b : Addr} {m : Str → Option Value}, b ≠ sysModules → s₁.heap.Ns b m → (hidT s₁.heap H).Ns b m := fun {b m} hs nb => by
    have hba := notLow nb
    obtain ⟨o, es, ep, e, d, r⟩ := nb
    refine ⟨o, es, ep, base_of e ?_, d, r⟩
    cases q : H b with
    | none => rfl
    | some u =>
      rcases Hn b (by rw [q]; simp) with z | z
      · exact absurd z hs
      · exact absurd z.1 hba
  have hKb : K.In (hidT s₁.heap H) := fun b o e => base_of (KX b o e) (by
    cases q : H b with
    | none => rfl
    | some u =>
      rcases Hn b (by rw [q]; simp) with z | z
      · rw [z, hks] at e; cases e
      · rw [z.1, z.2] at e; cases e)
  have n1 : mainGlobals ≠ sysModules := by decide
  have n2 : builtinsNs ≠ sysModules := by decide
  have n3 : cStatics ≠ sysModules := by decide
  have hM : Mod K mg (hidT s₁.heap H) := ⟨hKb, nsK n1 hns, ⟨mb, nsK n2 hb, hbb⟩, let ⟨mc, h1, h2⟩ := hlim; ⟨mc, nsK n3 h1, h2⟩⟩
  have e0 : Env0 P w K mg (hidT s₁.heap H) callerA [] s₁ H := ⟨rfl, hM, fun b o e => of_hidT e, Nat.le_of_eq (hidT_size _ _), trivial, fun b hb => absurd (show b ∈ ([] : List Addr) from hb) (by simp), hok, .of_eq hg⟩
  have hS : SqL K H a (ns.map V.int) := by
    cases hk : K.lookup a with
    | none => exact .inl (.inr ⟨sO, by show (if a = sysModules then _ else if a = a ∧ K.lookup a = none then _ else none) = _; rw [if_neg has, if_pos ⟨rfl, hk⟩]⟩)
    | some o =>
      have e := KX a o hk
      rw [ha] at e
      cases e
      exact .inr ⟨_, vs.toArray, _, hk, rfl, rfl, rfl, by rw [List.size_toArray, hi.length]; exact hl, by simpa using rv⟩
  have wd : Wd none H H (0, 0) := ⟨Same.refl _, ⟨_, Hs, ob, rfl⟩, fun c z => nomatch z⟩
  have st : StOk K none H H H ([V.ref a].map some) [.d (.list (ns.map PyData.int))] := stok_cons ⟨.ref a, rfl, .lst hS (RpA.ints ns)⟩ ⟨rfl, fun i s e => by simp at e, fun i j xs ys _ e => by simp at e⟩ fun xs j ys z _ => nomatch z
  refine codeAny_mono ((F _ hKb (nsK n1 hns)).run callerA [] s₁ H ⟨[.ref a], []⟩ [.ref a] [.ref a] (fun v _ => v = .bl true) hr rfl e0 (hbind s₁ (.ref a)) (.cons rfl .nil)
    ⟨none, H, (0, 0), _, _, _, rfl, wd, st, hm, fun v F' H' p r => r.bool_inv⟩) fun r s' h => ?_
  cases r with
  | error e => exact h.elim
  | ok fl =>
    cases fl with
    | next => exact h.elim
    | brk => exact h.elim
    | cont => exact h.elim
    | ret u =>
      obtain ⟨v, H', os, bare, un, hok', r', q⟩ := h
      have q' : v = .bl true := q
      subst q'
      obtain rfl : u = Value.bool true := r'
      refine ⟨rfl, OldK.of_keep fun b o e => ?_, os, bare⟩
      have old : ∀ u' ob', H b = some (.frz ob' u') → s'.heap.get? b = some o := fun u' ob' z => by
        have z2 := un.frzs b ob' _ z
        obtain ⟨e1, _⟩ := hok b _ z
        obtain ⟨e2, _⟩ := hok' b _ z2
        rw [e] at e1
        cases e1
        exact e2
      cases q : H b with
      | none => exact un.keep b o e q (by intro z; exact absurd (show b ∈ ([] : List Addr) from z) (by simp)) (by simp)
      | some u =>
        rcases Hn b (by rw [q]; simp) with z | z
        · exact old _ ob (by rw [z]; exact Hs)
        · exact old (.lst (ns.map V.int)) sO (by show (if b = sysModules then _ else if b = a ∧ K.lookup a = none then _ else none) = _; rw [if_neg (by rw [z.1]; exact has), if_pos z])

theorem walk_ofS {l : PySem.W.OpenLaw} {n k lev : Nat} {fa : List He.Fa} {fn : List He.DefD} {q : Program} {loose : List Str} {XP : (Str → Option Value) → Heap → Prop} {d : DefRec} {x : Str}
    (hn : l.most = some n) (hn2 : n ≤ sizeLine) (hdf : d.params.defaults = []) (hr : Room k callerA)
    (F : ∀ (w : World) (mg : Str → Option Value) (fA : Addr) (h : Heap) (K : PySem.W.Frag), K.In h → He.SaysD fa fn K → h.Ns mainGlobals mg → mg d.name = some (.ref fA) →
      ∃ (fd : FuncData) (m : MF), (∀ (s : Shared) (u : Value), BindsTo s fd ⟨[u], []⟩ [(x, u)]) ∧ (∀ ns : List Int, ns.length ≤ n → ∃ π', m [.d (.list (ns.map PyData.int))] (0, 0) = some (.bool true, π')) ∧
        ∀ base : Heap, K.In base → base.Ns mainGlobals mg → FnS l.prog w K mg base k fA fd [x] (SPd K 1 m)) :
    PySem.W.WalkO q loose XP (hookS lev fa fn).says l.row.toRowW d [] (fun f vs => PySem.call f vs) := by
  refine Att.attach_call hn hdf fun w s₀ s₁ mg mb fA o pm cd doc a vs ns G Y ho hd hcd hmg hobj hints hlen hg => ?_
  obtain ⟨hsys, K, KX, c, hks⟩ := Y
  obtain ⟨fd, m, hb, hm, hF⟩ := F w mg fA _ K KX c G.T.g hmg
  obtain ⟨π', em⟩ := hm ns hlen
  exact law_callS KX G.T.g G.T.b G.T.builtins G.T.nolimit hg hobj hints (Nat.le_trans hlen hn2) hr hsys hks hF hb em
end DL

set_option maxHeartbeats 2000000
namespace DL
open PySem PySem.Spec PyProof.Rows L2
set_option autoImplicit false
/-- the def x of the module keeps the promise sp -/
structure Fn (P : Program) (w : World) (K : PySem.W.Frag) (mg : Str → Option Value) (base : Heap) (lev : Nat) (x : Str) (ps : List Str) (sp : List V → Hp → VK → Prop) : Prop where
  ex : ∃ fd, FnS P w K mg base lev (He.ga K x) fd ps sp ∧ Binds K fd ps [] ∧ KBind K fd ps ps
  mg : mg x = some (.ref (He.ga K x))
  kp : PySem.W.keepIn K (.ref (He.ga K x)) = true
theorem Fn.mono {P : Program} {w : World} {K : PySem.W.Frag} {mg : Str → Option Value} {base : Heap} {j k : Nat} {x : Str} {ps : List Str} {sp : List V → Hp → VK → Prop} (F : Fn P w K mg base j x ps sp) (h : j ≤ k) : Fn P w K mg base k x ps sp :=
  let ⟨⟨fd, a, b, c⟩, m, p⟩ := F
  ⟨⟨fd, a.mono h, b, c⟩, m, p⟩
section
variable {X : Cx} {lev : Nat} {ps : List Str} {sp : List V → Hp → VK → Prop} {x : Str} {p pos : Pos} {e : Expr} {es : List Expr} {kws : List Keyword} {t tk : TA}
theorem pe_fn (F : Fn X.prog X.w X.K X.mg X.base lev x ps sp) (hr : Room lev X.A) (hgd : X.A.guards = some []) (hg : Gl X x) (ha : PA X (e :: es) t)
    (hdb : (x == ("__debug__" : Str)) = false := by decide) (he : starEach (e :: es) X.env = (false, eval e X.env) :: starEach es X.env := by rfl) (hpl : (backTo pos (starEach es X.env)).any (·.1) = false := by rfl) :
    PE X (.Call (.Name x p) (e :: es) [] pos) (tCl sp t) := by
  obtain ⟨fd, a, b, c⟩ := F.ex
  exact pe_cl a hr hgd hg F.mg F.kp b ha hdb he hpl
theorem pe_fnK (F : Fn X.prog X.w X.K X.mg X.base lev x ps sp) (hr : Room lev X.A) (hgd : X.A.guards = some []) (hg : Gl X x) (hkw : PK X kws tk)
    (hall : (backToKw pos (keywordEach kws X.env)).all (·.1.isSome) = true := by rfl) (hks : (backToKw pos (keywordEach kws X.env)).filterMap (·.1) = ps := by rfl)
    (hdb : (x == ("__debug__" : Str)) = false := by decide) (hpl : ((backTo pos (starEach [] X.env)).any (·.1) || (backToKw pos (keywordEach kws X.env)).any (·.1.isNone)) = false := by rfl) :
    PE X (.Call (.Name x p) [] kws pos) (tCl sp tk) := by
  obtain ⟨fd, a, b, c⟩ := F.ex
  exact pe_clK a hr hgd hg F.mg F.kp c hkw hall hks hdb hpl
theorem pe_cint {i : Int} (hg : Gl X x) (h : ∃ t, X.mg x = some (.int i t)) (hd : (x == ("__debug__" : Str)) = false := by decide) : PE X (.Name x pos) (tC (.int i)) := by
  obtain ⟨t, h⟩ := h
  exact pe_glob hg h ⟨t, rfl⟩ hd
theorem pe_cstr {z : Str} (hg : Gl X x) (h : ∃ t, X.mg x = some (.str z t)) (hd : (x == ("__debug__" : Str)) = false := by decide) : PE X (.Name x pos) (tC (.str z)) := by
  obtain ⟨t, h⟩ := h
  exact pe_glob hg h ⟨t, rfl⟩ hd
/-- a built-in type's name as a value -/
theorem pe_ty {n : String} (hg : Gl X x) (hm : X.mg x = none) (hv : bootBuiltins x = some (.type n)) (hn : x ≠ "__name__" := by decide) (hd : (x == ("__debug__" : Str)) = false := by decide) : PE X (.Name x pos) (tC (.ty n)) :=
  pe_bltn hg hm hv rfl hn hd
end
/-- a def of the text, from the head's facts -/
theorem fn_mk {P : Program} {w : World} {K : PySem.W.Frag} {mg : Str → Option Value} {base : Heap} {lev : Nat} {x : Str} {st : Stmt} {fd : FuncData} {N ps : List Str} {sp : List V → Hp → VK → Prop}
    (F : FunD K x x (defArgs st) (defBody st) (defScope st) [] [] (He.ga K x) fd) (hm : mg x = some (.ref (He.ga K x))) (S : FnScope N ps (defScope st))
    (b : Binds K fd ps []) (kb : KBind K fd ps ps) (len : ∀ vs H Q, sp vs H Q → vs.length = ps.length)
    (hb : ∀ (cdv : Value) (A : Around) (outer : List Env) (s : Shared) (H : Hp) (vs : List V) (Q : VK), Room lev (A.deeper (envOfC x (defScope st) s.heap.objs.size (He.ga K x) cdv)) → (A.deeper (envOfC x (defScope st) s.heap.objs.size (He.ga K x) cdv)).guards = some [] → sp vs H Q →
      ∃ t, PSs (cxOf CX0 P w K mg base N x (defScope st) (He.ga K x) cdv A outer s H E0).nox (defBody st) t ∧ t { nx := fun _ H' => Q .non H', rt := Q } (L2.start N vs) H) : Fn P w K mg base (lev + 1) x ps sp :=
  ⟨⟨fd, fnS_of F S len hb, b, kb⟩, hm, F.kp⟩
theorem kbind_of {K : PySem.W.Frag} {x qual : Str} {params : Arguments} {body : List Stmt} {scope : Scope} {kws : List (Str × V)} {f : Addr} {fd : FuncData} {ps : List Str} (F : FunD K x qual params body scope [] kws f fd)
    (h : ∀ (kV doc pm : Value) (an : Option Addr) (cdv ct : Value) (us : List Value), us.length = ps.length → bindArgs (PySem.W.fnOf x qual params body scope .none kV doc pm an cdv ct) ⟨[], ps.zip us⟩ = pure (ps.zip us)) : KBind K fd ps ps := by
  obtain ⟨oc, od, dV, kV, doc, pm, an, cdv, ct, osl, rfl, lk, hcd, hD, hK⟩ := F.ex
  rcases hD with ⟨_, rfl⟩ | ⟨e, _⟩
  · exact fun s ws _ hl => .of_eq (h kV doc pm an cdv ct ws hl)
  · exact absurd rfl e
/-! #### tuple(range(n)) -/
def gTupRg : PyData → Option PyData
  | .int n => if 0 ≤ n ∧ n ≤ 1000 then some (.tuple (upTo 0 n.toNat)) else none
  | _ => none
theorem ev_tupRg {K : PySem.W.Frag} {te : TE} {f : MX} (e : EvX K te f) : EvE K (tTupRg (tRg1 te)) (fU gTupRg f) := fun ρ π d π' hf pa H0 F H σ Q w s q => by
  obtain ⟨x, e1, e3⟩ := fU_some hf
  unfold gTupRg at e3
  split at e3
  · rename_i n
    split at e3
    · rename_i hn
      cases e3
      refine e ρ π _ π' e1 pa H0 F H σ _ w s fun v F1 H1 p1 r1 => ⟨n, r1.int_inv, ?_, fun p np => ?_⟩
      · unfold RgOk
        first
          | exact ⟨by omega, by omega, by omega, by omega, by omega⟩
          | (refine ⟨?_, ?_⟩ <;> omega)
          | omega
      · have a1 := p1.wd.add (o := .tup (rgV 0 n)) np
        refine q (.ref p) _ _ (p1.trans w a1) (.tup (.inl (.inl upd_same)) ?_)
        have er : rgV 0 n = ((List.range n.toNat).map fun (i : Nat) => V.int (0 + (i : Int))) := by
          unfold rgV
          simp
        rw [er]
        exact RpA.upTo 0 n.toNat
    · cases e3
  · cases e3
end DL

set_option maxHeartbeats 2000000
namespace DL
open PySem PySem.Spec PyProof.Rows L2
set_option autoImplicit false
def EvZ (K : PySem.W.Frag) (ts : TS) (g : MS) : Prop := ∀ ρ π o π', g ρ π = some (o, π') → ∀ F0 H0 pa F H σ D, InvS K none F0 H0 pa F H π σ ρ → OutK K none F0 H0 F π' o D → ts D σ H
section
variable {K : PySem.W.Frag} {te : TE} {ts tu : TS} {f : MX} {g h : MS} {l : ML} {b : MT} {tt : TT}
theorem EvS.z (e : EvS K ts g) : EvZ K ts g := fun ρ π o π' hf F0 H0 => e ρ π o π' hf none F0 H0
theorem evz_pot {i : Nat} (e : EvN K te l) : EvZ K (tAsg te (gName i)) (sSetP i l) := evs_setP e
theorem evz_seq (e1 : EvZ K ts g) (e2 : EvZ K tu h) : EvZ K (tSeq ts tu) (sSeq g h) := fun ρ π o π' hf F0 H0 pa F H σ D i q => by
  unfold sSeq at hf
  cases eg : g ρ π with
  | none => rw [eg] at hf; cases hf
  | some r =>
    obtain ⟨o1, π1⟩ := r
    rw [eg] at hf
    simp only [Option.bind_some] at hf
    refine e1 ρ π o1 π1 eg F0 H0 pa F H σ { D with nx := tu D } i ?_
    cases o1 with
    | nx ρ1 => exact fun pa' F' H' σ' i' z => e2 ρ1 π1 o π' hf F0 H0 pa' F' H' σ' D i' (q.later z)
    | rt d => cases hf; exact q
    | bk ρ1 => cases hf; exact q
    | ct ρ1 => cases hf; exact q
theorem evz_if (e : EvT K tt b) (e1 : EvZ K ts g) (e2 : EvZ K tu h) : EvZ K (tIfS tt ts tu) (sIf b g h) := fun ρ π o π' hf F0 H0 pa F H σ D iv q => by
  unfold sIf at hf
  cases eb : b ρ π with
  | none => rw [eb] at hf; cases hf
  | some r =>
    obtain ⟨k, π1⟩ := r
    rw [eb] at hf
    simp only [Option.bind_some] at hf
    refine e ρ π k π1 eb pa H0 F H σ _ iv.e.wd iv.s fun F' H' p => ?_
    cases k with
    | true =>
      rw [if_pos rfl] at hf ⊢
      exact e1 ρ π1 o π' hf F0 H0 pa F' H' σ D (iv.step p) (q.later p.ff)
    | false =>
      rw [if_neg Bool.false_ne_true] at hf ⊢
      exact e2 ρ π1 o π' hf F0 H0 pa F' H' σ D (iv.step p) (q.later p.ff)
theorem evz_for {wi : TI} {gt : TG} {vs : List Nat} {it : ML} {t : MG} (ei : EvI K wi it) (eg : EvG K gt vs t) (eb : EvZ K ts g) : EvZ K (tFor wi gt ts) (sFor it t g) := fun ρ π o π' hf F0 H0 pa F H σ D iv q => by
  unfold sFor at hf
  cases e1 : it ρ π with
  | none => rw [e1] at hf; cases hf
  | some o1 =>
    obtain ⟨es, π1⟩ := o1
    rw [e1] at hf
    simp only [Option.bind_some] at hf
    refine ei ρ π es π1 e1 pa H0 F H σ _ iv.e.wd iv.s fun J F1 H1 p1 ok => ?_
    have iv1 := iv.step p1
    refine ⟨fun i m σc Hc => m = es.length - i ∧ i ≤ es.length ∧ ∃ (pc : Option Addr) (Fc : Hp) (ρc : Ev) (πc : Pt), InvS K none F0 H0 pc Fc Hc πc σc ρc ∧ Same F1 Fc ∧ forM t g (es.drop i) ρc πc = some (o, π'),
      ⟨es.length, by simp, Nat.zero_le _, pa, F1, ρ, π1, iv1, Same.refl _, by rw [List.drop_zero]; exact hf⟩, ?_⟩
    rintro i m σc Hc ⟨rfl, hi, pc, Fc, ρc, πc, ivc, sc, hm⟩
    by_cases hlt : i < es.length
    · refine .inr ⟨ok.go pc i Fc Hc πc hlt sc ivc.e.wd, fun σn Hn => ∃ (pc : Option Addr) (Fc : Hp) (ρc : Ev) (πc : Pt), InvS K none F0 H0 pc Fc Hn πc σn ρc ∧ Same F1 Fc ∧ forM t g (es.drop (i + 1)) ρc πc = some (o, π'),
        fun σn Hn hn => ⟨es.length - (i + 1), by omega, rfl, hlt, hn⟩, fun x Hx hy => ?_⟩
      have ed : es.drop i = es[i] :: es.drop (i + 1) := List.drop_eq_getElem_cons hlt
      obtain ⟨Fx, px, rx⟩ := ok.yld pc i Fc Hc πc x Hx es[i] (List.getElem?_eq_getElem hlt) sc ivc.e.wd hy
      rw [ed] at hm
      unfold forM at hm
      cases e2 : t es[i] ρc with
      | none => rw [e2] at hm; cases hm
      | some ρ1 =>
        rw [e2] at hm
        simp only [Option.bind_some] at hm
        have ivx := ivc.step px
        refine eg es[i] ρc ρ1 e2 pc H0 Fx Hx πc _ x _ ivx.e.wd ivx.s rx fun σ2 s2 _ => ?_
        cases e3 : g ρ1 πc with
        | none => rw [e3] at hm; cases hm
        | some o3 =>
          obtain ⟨ob, π2⟩ := o3
          rw [e3] at hm
          simp only [Option.bind_some] at hm
          refine eb ρ1 πc ob π2 e3 F0 H0 pc Fx Hx σ2 _ ⟨ivx.e, s2⟩ ?_
          have scx := sc.trans px.ff
          cases ob with
          | nx ρ2 => exact fun pd Fd Hd σd ivd sd => ⟨pd, Fd, ρ2, π2, ivd, scx.trans sd, hm⟩
          | ct ρ2 => exact fun pd Fd Hd σd ivd sd => ⟨pd, Fd, ρ2, π2, ivd, scx.trans sd, hm⟩
          | bk ρ2 => cases hm; exact fun pd Fd Hd σd ivd sd => q pd Fd Hd σd ivd (p1.ff.trans (scx.trans sd))
          | rt d => cases hm; exact fun pd Fd Hd v ivd r sd => q pd Fd Hd v ivd r (p1.ff.trans (scx.trans sd))
    · have ei2 : i = es.length := by omega
      subst ei2
      rw [List.drop_length] at hm
      cases hm
      exact .inl ⟨ok.stop pc Fc Hc _ sc ivc.e.wd, q pc Fc Hc σc ivc (p1.ff.trans sc)⟩
end
def noP : Sl → Bool
  | .p => false
  | _ => true
def mOfZ (N : Nat) (g : MS) : MF := fun sl π => if sl.all noP = true then (asRt (g (entry N sl) (0, 0))).map fun (d, _) => (d, π) else none
theorem body_okZ {K : PySem.W.Frag} {ts : TS} {g : MS} {N : List Str} {n : Nat} (e : EvZ K ts g) {vs : List V} {H : Hp} {Q : VK} (h : SPd K n (mOfZ N.length g) vs H Q) : ts { nx := fun _ H' => Q .non H', rt := Q } (L2.start N vs) H := by
  obtain ⟨pa, F, π, sl, d, π', hl, w, s, hm, q⟩ := h
  unfold mOfZ at hm
  split at hm
  · rename_i hno
    cases hg : g (entry N.length sl) (0, 0) with
    | none => rw [hg] at hm; cases hm
    | some r =>
      obtain ⟨o, π1⟩ := r
      rw [hg] at hm
      have w0 : Wd none F H (0, 0) := ⟨w.same, w.sys, fun a z => nomatch z⟩
      have s0 : StOk K none H F H (vs.map some) sl := ⟨s.len, fun i u eu => by
        have z := s.at_ i u eu
        cases u with
        | e => trivial
        | d x => exact z
        | p =>
          have y := (List.all_eq_true.mp hno) _ (List.mem_of_getElem? eu)
          exact absurd y Bool.false_ne_true
        | m xs =>
          obtain ⟨a, us, z1, z2, z3, z4, z5⟩ := z
          exact ⟨a, us, z1, z2, z3, (fun y => nomatch y), z5⟩, s.apart⟩
      have fin : ∀ {F' H' : Hp} {π2 : Pt}, Post none F H F' H' π2 → Post pa F H F' H' π := fun {F' H' π2} p => by
        refine ⟨p.ff, ⟨p.wd.same, p.wd.sys, fun a z => ?_⟩, fun b o hb _ => p.keep b o hb (fun y => nomatch y), p.new⟩
        obtain ⟨q1, q2⟩ := w.pot a z
        refine ⟨?_, p.keep a _ q2 (fun y => nomatch y)⟩
        cases y : F' a with
        | none => rfl
        | some o =>
          rcases p.new a o y with x | x
          · rw [q1] at x; cases x
          · rw [q2] at x; cases x
      refine e _ (0, 0) o π1 hg F H none F H (L2.start N vs) _ ⟨EndS.start w0, stok_entry s0⟩ ?_
      cases o with
      | nx ρ' => cases hm; exact fun pa' F' H' σ' i z => q .non F' H' (fin i.e.post) .non
      | rt d' => cases hm; exact fun pa' F' H' v i r z => q v F' H' (fin i.post) r
      | bk ρ' => cases hm
      | ct ρ' => cases hm
  · cases hm

abbrev MR := Ev → Pt → Option (List PyData × Pt)
def EvR (K : PySem.W.Frag) (ts : TS) (g : MR) : Prop := ∀ ρ π ds π', g ρ π = some (ds, π') → ∀ pa0 F0 H0 pa F H σ D, InvS K pa0 F0 H0 pa F H π σ ρ →
  (∀ pa' F' H' a vs, EndS pa0 F0 H0 pa' F' H' π' → H0 a = none → F' a = none → pa' ≠ some a → H' a = some (.lst vs) → RpA K F' vs ds → D.rt (.ref a) H') → ts D σ H
section
variable {K : PySem.W.Frag} {te : TE} {ts tu : TS} {g : MS} {h : MR} {l : ML}
theorem evr_ret (e : EvN K te l) : EvR K (tRet te) l := fun ρ π ds π' hf pa0 F0 H0 pa F H σ D iv q =>
  e ρ π ds π' hf pa H0 F H σ _ iv.e.wd iv.s fun a vs F' H' p ha hF hp hH r => q pa F' H' a vs (iv.e.step p) (iv.e.fresh ha) hF hp hH r
def rSeq (g : MS) (h : MR) : MR := fun ρ π => (g ρ π).bind fun (o, π1) => match o with
  | .nx ρ1 => h ρ1 π1
  | _ => none
theorem evr_seq (e1 : EvS K ts g) (e2 : EvR K tu h) : EvR K (tSeq ts tu) (rSeq g h) := fun ρ π ds π' hf pa0 F0 H0 pa F H σ D i q => by
  unfold rSeq at hf
  cases eg : g ρ π with
  | none => rw [eg] at hf; cases hf
  | some r =>
    obtain ⟨o1, π1⟩ := r
    rw [eg] at hf
    simp only [Option.bind_some] at hf
    refine e1 ρ π o1 π1 eg pa0 F0 H0 pa F H σ { D with nx := tu D } i ?_
    cases o1 with
    | nx ρ1 => exact fun pa' F' H' σ' i' z => e2 ρ1 π1 ds π' hf pa0 F0 H0 pa' F' H' σ' D i' q
    | rt d => cases hf
    | bk ρ1 => cases hf
    | ct ρ1 => cases hf
end
def mOfR (N : Nat) (g : MR) : MFN := fun sl π => g (entry N sl) π
theorem body_okR {K : PySem.W.Frag} {ts : TS} {g : MR} {N : List Str} {n : Nat} (e : EvR K ts g) {vs : List V} {H : Hp} {Q : VK} (h : SPn K n (mOfR N.length g) vs H Q) : ts { nx := fun _ H' => Q .non H', rt := Q } (L2.start N vs) H := by
  obtain ⟨pa, F, π, sl, ds, π', hl, w, s, hm, q⟩ := h
  refine e _ π ds π' hm pa F H pa F H (L2.start N vs) _ ⟨EndS.start w, stok_entry s⟩ fun pa' F' H' a us i ha hF hp hH r => q a us F' H' i.post ha hF ?_ hH r
  rcases i.pt with y | ⟨y, _⟩
  · rw [← y]; exact hp
  · rw [y]; exact fun z => nomatch z
end DL

set_option maxHeartbeats 0
namespace Law10
open PySem PySem.Spec PyProof.Rows L2 DL
set_option autoImplicit false
abbrev PW : Program := PySem.Challenge.pw_caseworks_k10_any_value_as_sheet
def top (i : Nat) : Stmt := PW.main.body.getD i (.Pass ⟨0, 0, 0, 0⟩)
abbrev bYes : MT := fun _ π => some (true, π)
structure Gs (K : PySem.W.Frag) (mg : Str → Option Value) : Prop where
  d__law_pot : ∃ fd, FunD K "_law_pot" "_law_pot" (defArgs (top 21)) (defBody (top 21)) (defScope (top 21)) [] [] (He.ga K "_law_pot") fd
  g__law_pot : mg "_law_pot" = some (.ref (He.ga K "_law_pot"))
  d__law_draw : ∃ fd, FunD K "_law_draw" "_law_draw" (defArgs (top 22)) (defBody (top 22)) (defScope (top 22)) [] [] (He.ga K "_law_draw") fd
  g__law_draw : mg "_law_draw" = some (.ref (He.ga K "_law_draw"))
  d__law_pick : ∃ fd, FunD K "_law_pick" "_law_pick" (defArgs (top 23)) (defBody (top 23)) (defScope (top 23)) [] [] (He.ga K "_law_pick") fd
  g__law_pick : mg "_law_pick" = some (.ref (He.ga K "_law_pick"))
  d__law_lot : ∃ fd, FunD K "_law_lot" "_law_lot" (defArgs (top 24)) (defBody (top 24)) (defScope (top 24)) [] [] (He.ga K "_law_lot") fd
  g__law_lot : mg "_law_lot" = some (.ref (He.ga K "_law_lot"))
  d__law_sheet : ∃ fd, FunD K "_law_sheet" "_law_sheet" (defArgs (top 25)) (defBody (top 25)) (defScope (top 25)) [] [] (He.ga K "_law_sheet") fd
  g__law_sheet : mg "_law_sheet" = some (.ref (He.ga K "_law_sheet"))
  d__law_number : ∃ fd, FunD K "_law_number" "_law_number" (defArgs (top 27)) (defBody (top 27)) (defScope (top 27)) [] [] (He.ga K "_law_number") fd
  g__law_number : mg "_law_number" = some (.ref (He.ga K "_law_number"))
  d__law_is_standing : ∃ fd, FunD K "_law_is_standing" "_law_is_standing" (defArgs (top 31)) (defBody (top 31)) (defScope (top 31)) [] [] (He.ga K "_law_is_standing") fd
  g__law_is_standing : mg "_law_is_standing" = some (.ref (He.ga K "_law_is_standing"))
  d__law_are_places : ∃ fd, FunD K "_law_are_places" "_law_are_places" (defArgs (top 29)) (defBody (top 29)) (defScope (top 29)) [] [] (He.ga K "_law_are_places") fd
  g__law_are_places : mg "_law_are_places" = some (.ref (He.ga K "_law_are_places"))
  d__law_is_name : ∃ fd, FunD K "_law_is_name" "_law_is_name" (defArgs (top 28)) (defBody (top 28)) (defScope (top 28)) [] [] (He.ga K "_law_is_name") fd
  g__law_is_name : mg "_law_is_name" = some (.ref (He.ga K "_law_is_name"))
  d__law_is_task : ∃ fd, FunD K "_law_is_task" "_law_is_task" (defArgs (top 30)) (defBody (top 30)) (defScope (top 30)) [] [] (He.ga K "_law_is_task") fd
  g__law_is_task : mg "_law_is_task" = some (.ref (He.ga K "_law_is_task"))
  d__law_flaw : ∃ fd, FunD K "_law_flaw" "_law_flaw" (defArgs (top 32)) (defBody (top 32)) (defScope (top 32)) [] [] (He.ga K "_law_flaw") fd
  g__law_flaw : mg "_law_flaw" = some (.ref (He.ga K "_law_flaw"))
  d__law_edges : ∃ fd, FunD K "_law_edges" "_law_edges" (defArgs (top 34)) (defBody (top 34)) (defScope (top 34)) [] [] (He.ga K "_law_edges") fd
  g__law_edges : mg "_law_edges" = some (.ref (He.ga K "_law_edges"))
  d__law_bent : ∃ fd, FunD K "_law_bent" "_law_bent" (defArgs (top 33)) (defBody (top 33)) (defScope (top 33)) [] [] (He.ga K "_law_bent") fd
  g__law_bent : mg "_law_bent" = some (.ref (He.ga K "_law_bent"))
  d_is_integer : ∃ fd, FunD K "is_integer" "is_integer" (defArgs (top 1)) (defBody (top 1)) (defScope (top 1)) [] [] (He.ga K "is_integer") fd
  g_is_integer : mg "is_integer" = some (.ref (He.ga K "is_integer"))
  d_is_within : ∃ fd, FunD K "is_within" "is_within" (defArgs (top 2)) (defBody (top 2)) (defScope (top 2)) [] [] (He.ga K "is_within") fd
  g_is_within : mg "is_within" = some (.ref (He.ga K "is_within"))
  d_is_tuple : ∃ fd, FunD K "is_tuple" "is_tuple" (defArgs (top 3)) (defBody (top 3)) (defScope (top 3)) [] [] (He.ga K "is_tuple") fd
  g_is_tuple : mg "is_tuple" = some (.ref (He.ga K "is_tuple"))
  d_are_rising : ∃ fd, FunD K "are_rising" "are_rising" (defArgs (top 4)) (defBody (top 4)) (defScope (top 4)) [] [] (He.ga K "are_rising") fd
  g_are_rising : mg "are_rising" = some (.ref (He.ga K "are_rising"))
  d_are_places : ∃ fd, FunD K "are_places" "are_places" (defArgs (top 13)) (defBody (top 13)) (defScope (top 13)) [] [] (He.ga K "are_places") fd
  g_are_places : mg "are_places" = some (.ref (He.ga K "are_places"))
  d_is_name : ∃ fd, FunD K "is_name" "is_name" (defArgs (top 12)) (defBody (top 12)) (defScope (top 12)) [] [] (He.ga K "is_name") fd
  g_is_name : mg "is_name" = some (.ref (He.ga K "is_name"))
  d_is_task_of : ∃ fd, FunD K "is_task_of" "is_task_of" (defArgs (top 15)) (defBody (top 15)) (defScope (top 15)) [] [] (He.ga K "is_task_of") fd
  g_is_task_of : mg "is_task_of" = some (.ref (He.ga K "is_task_of"))
  d_is_standing_of : ∃ fd, FunD K "is_standing_of" "is_standing_of" (defArgs (top 14)) (defBody (top 14)) (defScope (top 14)) [] [] (He.ga K "is_standing_of") fd
  g_is_standing_of : mg "is_standing_of" = some (.ref (He.ga K "is_standing_of"))
  d_flaw_of : ∃ fd, FunD K "flaw_of" "flaw_of" (defArgs (top 18)) (defBody (top 18)) (defScope (top 18)) [] [] (He.ga K "flaw_of") fd
  g_flaw_of : mg "flaw_of" = some (.ref (He.ga K "flaw_of"))
  d_sheet_flaw : ∃ fd, FunD K "sheet_flaw" "sheet_flaw" (defArgs (top 19)) (defBody (top 19)) (defScope (top 19)) [] [] (He.ga K "sheet_flaw") fd
  g_sheet_flaw : mg "sheet_flaw" = some (.ref (He.ga K "sheet_flaw"))
  d_is_sheet : ∃ fd, FunD K "is_sheet" "is_sheet" (defArgs (top 16)) (defBody (top 16)) (defScope (top 16)) [] [] (He.ga K "is_sheet") fd
  g_is_sheet : mg "is_sheet" = some (.ref (He.ga K "is_sheet"))
  d_law : ∃ fd, FunD K "law" "law" (defArgs (top 35)) (defBody (top 35)) (defScope (top 35)) [] [] (He.ga K "law") fd
  g_law : mg "law" = some (.ref (He.ga K "law"))
  b_abs : mg "abs" = none
  b_all : mg "all" = none
  b_bool : mg "bool" = none
  b_divmod : mg "divmod" = none
  b_enumerate : mg "enumerate" = none
  b_int : mg "int" = none
  b_isinstance : mg "isinstance" = none
  b_len : mg "len" = none
  b_list : mg "list" = none
  b_max : mg "max" = none
  b_range : mg "range" = none
  b_repr : mg "repr" = none
  b_set : mg "set" = none
  b_sorted : mg "sorted" = none
  b_str : mg "str" = none
  b_sum : mg "sum" = none
  b_tuple : mg "tuple" = none
  b_zip : mg "zip" = none
  c_LETTERS : ∃ t, mg "LETTERS" = some (.str "abcdefghijklmnopqrstuvwxyz" t)
  c_MOST_PLACES : ∃ t, mg "MOST_PLACES" = some (.int 16 t)
  c_MOST_SIGNS : ∃ t, mg "MOST_SIGNS" = some (.int 12 t)
  c_MOST_TASKS : ∃ t, mg "MOST_TASKS" = some (.int 24 t)
  c_MOST_TOKENS : ∃ t, mg "MOST_TOKENS" = some (.int 9 t)
  c_SIGNS : ∃ t, mg "SIGNS" = some (.str "abcdefghijklmnopqrstuvwxyz0123456789_" t)
def fn : List He.DefD := [⟨("_law_pot", none), "_law_pot", "_law_pot", defArgs (top 21), defBody (top 21), defScope (top 21), [], []⟩,
  ⟨("_law_draw", none), "_law_draw", "_law_draw", defArgs (top 22), defBody (top 22), defScope (top 22), [], []⟩,
  ⟨("_law_pick", none), "_law_pick", "_law_pick", defArgs (top 23), defBody (top 23), defScope (top 23), [], []⟩,
  ⟨("_law_lot", none), "_law_lot", "_law_lot", defArgs (top 24), defBody (top 24), defScope (top 24), [], []⟩,
  ⟨("_law_sheet", none), "_law_sheet", "_law_sheet", defArgs (top 25), defBody (top 25), defScope (top 25), [], []⟩,
  ⟨("_law_number", none), "_law_number", "_law_number", defArgs (top 27), defBody (top 27), defScope (top 27), [], []⟩,
  ⟨("_law_is_standing", none), "_law_is_standing", "_law_is_standing", defArgs (top 31), defBody (top 31), defScope (top 31), [], []⟩,
  ⟨("_law_are_places", none), "_law_are_places", "_law_are_places", defArgs (top 29), defBody (top 29), defScope (top 29), [], []⟩,
  ⟨("_law_is_name", none), "_law_is_name", "_law_is_name", defArgs (top 28), defBody (top 28), defScope (top 28), [], []⟩,
  ⟨("_law_is_task", none), "_law_is_task", "_law_is_task", defArgs (top 30), defBody (top 30), defScope (top 30), [], []⟩,
  ⟨("_law_flaw", none), "_law_flaw", "_law_flaw", defArgs (top 32), defBody (top 32), defScope (top 32), [], []⟩,
  ⟨("_law_edges", none), "_law_edges", "_law_edges", defArgs (top 34), defBody (top 34), defScope (top 34), [], []⟩,
  ⟨("_law_bent", none), "_law_bent", "_law_bent", defArgs (top 33), defBody (top 33), defScope (top 33), [], []⟩,
  ⟨("is_integer", none), "is_integer", "is_integer", defArgs (top 1), defBody (top 1), defScope (top 1), [], []⟩,
  ⟨("is_within", none), "is_within", "is_within", defArgs (top 2), defBody (top 2), defScope (top 2), [], []⟩,
  ⟨("is_tuple", none), "is_tuple", "is_tuple", defArgs (top 3), defBody (top 3), defScope (top 3), [], []⟩,
  ⟨("are_rising", none), "are_rising", "are_rising", defArgs (top 4), defBody (top 4), defScope (top 4), [], []⟩,
  ⟨("are_places", none), "are_places", "are_places", defArgs (top 13), defBody (top 13), defScope (top 13), [], []⟩,
  ⟨("is_name", none), "is_name", "is_name", defArgs (top 12), defBody (top 12), defScope (top 12), [], []⟩,
  ⟨("is_task_of", none), "is_task_of", "is_task_of", defArgs (top 15), defBody (top 15), defScope (top 15), [], []⟩,
  ⟨("is_standing_of", none), "is_standing_of", "is_standing_of", defArgs (top 14), defBody (top 14), defScope (top 14), [], []⟩,
  ⟨("flaw_of", none), "flaw_of", "flaw_of", defArgs (top 18), defBody (top 18), defScope (top 18), [], []⟩,
  ⟨("sheet_flaw", none), "sheet_flaw", "sheet_flaw", defArgs (top 19), defBody (top 19), defScope (top 19), [], []⟩,
  ⟨("is_sheet", none), "is_sheet", "is_sheet", defArgs (top 16), defBody (top 16), defScope (top 16), [], []⟩,
  ⟨("law", none), "law", "law", defArgs (top 35), defBody (top 35), defScope (top 35), [], []⟩]
def fa : List He.Fa := [.glo "_law_pot", .glo "_law_draw", .glo "_law_pick", .glo "_law_lot", .glo "_law_sheet", .glo "_law_number", .glo "_law_is_standing", .glo "_law_are_places", .glo "_law_is_name", .glo "_law_is_task", .glo "_law_flaw", .glo "_law_edges", .glo "_law_bent", .glo "is_integer", .glo "is_within", .glo "is_tuple", .glo "are_rising", .glo "are_places", .glo "is_name", .glo "is_task_of", .glo "is_standing_of", .glo "flaw_of", .glo "sheet_flaw", .glo "is_sheet", .glo "law", .free "abs", .free "all", .free "bool", .free "divmod", .free "enumerate", .free "int", .free "isinstance", .free "len", .free "list", .free "max", .free "range", .free "repr", .free "set", .free "sorted", .free "str", .free "sum", .free "tuple", .free "zip", .str "LETTERS" "abcdefghijklmnopqrstuvwxyz", .int "MOST_PLACES" 16, .int "MOST_SIGNS" 12, .int "MOST_TASKS" 24, .int "MOST_TOKENS" 9, .str "SIGNS" "abcdefghijklmnopqrstuvwxyz0123456789_"]
theorem Gs.of {K : PySem.W.Frag} {h : Heap} {mg : Str → Option Value} (X : K.In h) (N : h.Ns mainGlobals mg) (c : He.SaysD fa fn K) : Gs K mg :=
  ⟨c.def_ 0 rfl,
   He.glo_ok X N (c.fact 0 (f := .glo "_law_pot") rfl),
   c.def_ 1 rfl,
   He.glo_ok X N (c.fact 1 (f := .glo "_law_draw") rfl),
   c.def_ 2 rfl,
   He.glo_ok X N (c.fact 2 (f := .glo "_law_pick") rfl),
   c.def_ 3 rfl,
   He.glo_ok X N (c.fact 3 (f := .glo "_law_lot") rfl),
   c.def_ 4 rfl,
   He.glo_ok X N (c.fact 4 (f := .glo "_law_sheet") rfl),
   c.def_ 5 rfl,
   He.glo_ok X N (c.fact 5 (f := .glo "_law_number") rfl),
   c.def_ 6 rfl,
   He.glo_ok X N (c.fact 6 (f := .glo "_law_is_standing") rfl),
   c.def_ 7 rfl,
   He.glo_ok X N (c.fact 7 (f := .glo "_law_are_places") rfl),
   c.def_ 8 rfl,
   He.glo_ok X N (c.fact 8 (f := .glo "_law_is_name") rfl),
   c.def_ 9 rfl,
   He.glo_ok X N (c.fact 9 (f := .glo "_law_is_task") rfl),
   c.def_ 10 rfl,
   He.glo_ok X N (c.fact 10 (f := .glo "_law_flaw") rfl),
   c.def_ 11 rfl,
   He.glo_ok X N (c.fact 11 (f := .glo "_law_edges") rfl),
   c.def_ 12 rfl,
   He.glo_ok X N (c.fact 12 (f := .glo "_law_bent") rfl),
   c.def_ 13 rfl,
   He.glo_ok X N (c.fact 13 (f := .glo "is_integer") rfl),
   c.def_ 14 rfl,
   He.glo_ok X N (c.fact 14 (f := .glo "is_within") rfl),
   c.def_ 15 rfl,
   He.glo_ok X N (c.fact 15 (f := .glo "is_tuple") rfl),
   c.def_ 16 rfl,
   He.glo_ok X N (c.fact 16 (f := .glo "are_rising") rfl),
   c.def_ 17 rfl,
   He.glo_ok X N (c.fact 17 (f := .glo "are_places") rfl),
   c.def_ 18 rfl,
   He.glo_ok X N (c.fact 18 (f := .glo "is_name") rfl),
   c.def_ 19 rfl,
   He.glo_ok X N (c.fact 19 (f := .glo "is_task_of") rfl),
   c.def_ 20 rfl,
   He.glo_ok X N (c.fact 20 (f := .glo "is_standing_of") rfl),
   c.def_ 21 rfl,
   He.glo_ok X N (c.fact 21 (f := .glo "flaw_of") rfl),
   c.def_ 22 rfl,
   He.glo_ok X N (c.fact 22 (f := .glo "sheet_flaw") rfl),
   c.def_ 23 rfl,
   He.glo_ok X N (c.fact 23 (f := .glo "is_sheet") rfl),
   c.def_ 24 rfl,
   He.glo_ok X N (c.fact 24 (f := .glo "law") rfl),
   He.free_ok X N (c.fact 25 (f := .free "abs") rfl),
   He.free_ok X N (c.fact 26 (f := .free "all") rfl),
   He.free_ok X N (c.fact 27 (f := .free "bool") rfl),
   He.free_ok X N (c.fact 28 (f := .free "divmod") rfl),
   He.free_ok X N (c.fact 29 (f := .free "enumerate") rfl),
   He.free_ok X N (c.fact 30 (f := .free "int") rfl),
   He.free_ok X N (c.fact 31 (f := .free "isinstance") rfl),
   He.free_ok X N (c.fact 32 (f := .free "len") rfl),
   He.free_ok X N (c.fact 33 (f := .free "list") rfl),
   He.free_ok X N (c.fact 34 (f := .free "max") rfl),
   He.free_ok X N (c.fact 35 (f := .free "range") rfl),
   He.free_ok X N (c.fact 36 (f := .free "repr") rfl),
   He.free_ok X N (c.fact 37 (f := .free "set") rfl),
   He.free_ok X N (c.fact 38 (f := .free "sorted") rfl),
   He.free_ok X N (c.fact 39 (f := .free "str") rfl),
   He.free_ok X N (c.fact 40 (f := .free "sum") rfl),
   He.free_ok X N (c.fact 41 (f := .free "tuple") rfl),
   He.free_ok X N (c.fact 42 (f := .free "zip") rfl),
   He.str_ok X N (c.fact 43 (f := .str "LETTERS" "abcdefghijklmnopqrstuvwxyz") rfl),
   He.int_ok X N (c.fact 44 (f := .int "MOST_PLACES" 16) rfl),
   He.int_ok X N (c.fact 45 (f := .int "MOST_SIGNS" 12) rfl),
   He.int_ok X N (c.fact 46 (f := .int "MOST_TASKS" 24) rfl),
   He.int_ok X N (c.fact 47 (f := .int "MOST_TOKENS" 9) rfl),
   He.str_ok X N (c.fact 48 (f := .str "SIGNS" "abcdefghijklmnopqrstuvwxyz0123456789_") rfl)⟩
/-! #### _law_pot -/
abbrev s__law_pot : Stmt := top 21
abbrev N__law_pot : List Str := ["script", "k", "cell"]
theorem sc__law_pot : FnScope N__law_pot ["script", "k"] (defScope s__law_pot) := ⟨rfl, rfl, rfl, by decide +kernel, rfl, by decide +kernel, by decide +kernel⟩
def g__law_pot : MR := (rSeq (sSet 2 (fIf (fTv (fB gLt (fVx 1) (fU gLen (fVx 0)))) (fU gAbs (fB gIx (fVx 0) (fVx 1))) (fB gAdd (fB gAdd (fB gMul (fC (.int 1091)) (fVx 1)) (fC (.int 457))) (fB gMod (fU gInt (fU gSum (fL (fSlL (fVx 0) oNone (oSome (fC (.int 1))))))) (fC (.int 1000003)))))) (fLst (fCons (fB gMax2 (fC (.int 0)) (fB gSubI (fVx 2) (fB gPow (fC (.int 10)) (fC (.int 18))))) (fCons (fB gAdd (fB gMod (fU gInt (fB gAdd (fB gAdd (fB gMul (fB gMod (fU gInt (fVx 2)) (fC (.int 2147483549))) (fC (.int 41651))) (fB gMul (fC (.int 7561)) (fVx 1))) (fC (.int 83)))) (fC (.int 2147483563))) (fC (.int 1))) fNil))))
def m__law_pot : MFN := mOfR 3 g__law_pot
theorem ok__law_pot {P : Program} {w : World} {K : PySem.W.Frag} {mg : Str → Option Value} {base : Heap} (G : Gs K mg) : Fn P w K mg base 1 "_law_pot" ["script", "k"] (SPn K 2 m__law_pot) := by
  obtain ⟨fd, F⟩ := G.d__law_pot
  exact fn_mk F G.g__law_pot sc__law_pot (FunD.bindsN F fun _ _ _ _ _ _ us hl => match us, hl with | [_, _], _ => rfl) (kbind_of F fun _ _ _ _ _ _ us hl => match us, hl with | [_, _], _ => rfl) (fun vs H Q ⟨_, _, _, _, _, _, h, _⟩ => h) (fun cdv A outer s H vs Q hr hg h => have hu := hr.units; ⟨_, (pss_cons (ps_set (i := 2) sc__law_pot.nd rfl (by first | exact Or.inl rfl | exact Or.inr rfl) (pe_ifExp (pt_cmpR op_lt (pv 1) (pe_callB call_len rfl G.b_len boot_len (pa_cons (pv 0) pa_nil)) (nomark _)) (pe_callB call_abs rfl G.b_abs boot_abs (pa_cons (pe_ix ix_seq (pv 0) (pv 1) fun _ _ => rfl) pa_nil)) (pe_op op_addAll (pe_op op_addAll (pe_op op_mulAll pe_int (pv 1)) pe_int) (pe_op op_mod (pe_callTy call_int1 rfl G.b_int boot_int (pa_cons (pe_callB (cr_sum rfl) rfl G.b_sum boot_sum (pa_cons (pe_slice sl_list (pv 0) po_none (po_some pe_int)) pa_nil)) pa_nil)) pe_int)))) (pss_one (ps_ret (pe_lst (pa_cons (pe_callB (call_max2 rfl) rfl G.b_max boot_max (pa_cons pe_int (pa_cons (pe_op op_subAll (pv 2) (pe_op op_pow pe_int pe_int)) pa_nil))) (pa_cons (pe_op op_addAll (pe_op op_mod (pe_callTy call_int1 rfl G.b_int boot_int (pa_cons (pe_op op_addAll (pe_op op_addAll (pe_op op_mulAll (pe_op op_mod (pe_callTy call_int1 rfl G.b_int boot_int (pa_cons (pv 2) pa_nil)) pe_int) pe_int) (pe_op op_mulAll pe_int (pv 1))) pe_int) pa_nil)) pe_int) pe_int) pa_nil)))))), body_okR (g := g__law_pot) (evr_seq (evs_set (i := 2) (ev_if (evt_test (EvE.x (ev_op (sim_cmp _) (ev_varx 1) (EvE.x (ev_c1 sim_len (ev_varx 0)))))) (ev_c1 sim_abs (EvE.x (ev_op sim_ix (ev_varx 0) (ev_varx 1)))) (ev_op sim_add (EvE.x (ev_op sim_add (EvE.x (ev_op sim_mul (EvE.x (ev_int _)) (ev_varx 1))) (EvE.x (ev_int _)))) (EvE.x (ev_op sim_mod (EvE.x (ev_c1 sim_int (EvE.x (ev_c1 sim_sum (EvN.x (ev_slL (ev_varx 0) evo_none (evo_some (EvE.x (ev_int _))))))))) (EvE.x (ev_int _))))))) (evr_ret (ev_lst (eva_cons (ev_c2 sim_max2 (EvE.x (ev_int _)) (EvE.x (ev_op sim_sub (ev_varx 2) (EvE.x (ev_op sim_pow (EvE.x (ev_int _)) (EvE.x (ev_int _))))))) (eva_cons (ev_op sim_add (EvE.x (ev_op sim_mod (EvE.x (ev_c1 sim_int (EvE.x (ev_op sim_add (EvE.x (ev_op sim_add (EvE.x (ev_op sim_mul (EvE.x (ev_op sim_mod (EvE.x (ev_c1 sim_int (ev_varx 2))) (EvE.x (ev_int _)))) (EvE.x (ev_int _)))) (EvE.x (ev_op sim_mul (EvE.x (ev_int _)) (ev_varx 1))))) (EvE.x (ev_int _)))))) (EvE.x (ev_int _)))) (EvE.x (ev_int _))) eva_nil))))) h⟩)
/-! #### _law_draw -/
abbrev s__law_draw : Stmt := top 22
abbrev N__law_draw : List Str := ["pot", "size", "digit"]
theorem sc__law_draw : FnScope N__law_draw ["pot", "size"] (defScope s__law_draw) := ⟨rfl, rfl, rfl, by decide +kernel, rfl, by decide +kernel, by decide +kernel⟩
def g__law_draw : MS := (sSeq (sIf (fTv (fB gGt (fPot 0 0) (fC (.int 0)))) (sSeq (sPotN 0 0 2 (fB gDivmod (fPot 0 0) (fVx 1))) (sRet (fV 2))) sNil) (sSeq (sPot 0 1 (fB gMod (fU gInt (fB gAdd (fB gMul (fPot 0 1) (fC (.int 40692))) (fC (.int 7561)))) (fC (.int 2147483587)))) (sRet (fB gMod (fU gInt (fB gDiv (fB gMod (fU gInt (fB gMul (fPot 0 1) (fPot 0 1))) (fC (.int 2147483549))) (fC (.int 19)))) (fVx 1)))))
def m__law_draw : MF := mOf 3 g__law_draw
theorem ok__law_draw {P : Program} {w : World} {K : PySem.W.Frag} {mg : Str → Option Value} {base : Heap} (G : Gs K mg) : Fn P w K mg base 1 "_law_draw" ["pot", "size"] (SPd K 2 m__law_draw) := by
  obtain ⟨fd, F⟩ := G.d__law_draw
  exact fn_mk F G.g__law_draw sc__law_draw (FunD.bindsN F fun _ _ _ _ _ _ us hl => match us, hl with | [_, _], _ => rfl) (kbind_of F fun _ _ _ _ _ _ us hl => match us, hl with | [_, _], _ => rfl) (fun vs H Q ⟨_, _, _, _, _, _, h, _⟩ => h) (fun cdv A outer s H vs Q hr hg h => have hu := hr.units; ⟨_, (pss_cons (ps_if (pt_cmpR op_gt (pe_ix ix_seq (pv 0) pe_int fun _ _ => rfl) pe_int (nomark _)) (pss_cons (ps_asg (pe_callB call_divmod rfl G.b_divmod boot_divmod (pa_cons (pe_ix ix_seq (pv 0) pe_int fun _ _ => rfl) (pa_cons (pv 1) pa_nil))) (pg_tup rfl (pgs_cons (pg_sub (pv 0) pe_int set_list fun _ => rfl) (pgs_cons (pg_name (i := 2) sc__law_draw.nd rfl (by first | exact Or.inl rfl | exact Or.inr rfl)) pgs_nil)))) (pss_one (ps_ret (pv 2)))) pss_nil) (pss_cons (ps_asg (pe_op op_mod (pe_callTy call_int1 rfl G.b_int boot_int (pa_cons (pe_op op_addAll (pe_op op_mulAll (pe_ix ix_seq (pv 0) pe_int fun _ _ => rfl) pe_int) pe_int) pa_nil)) pe_int) (pg_sub (pv 0) pe_int set_list fun _ => rfl)) (pss_one (ps_ret (pe_op op_mod (pe_callTy call_int1 rfl G.b_int boot_int (pa_cons (pe_op op_fdiv (pe_op op_mod (pe_callTy call_int1 rfl G.b_int boot_int (pa_cons (pe_op op_mulAll (pe_ix ix_seq (pv 0) pe_int fun _ _ => rfl) (pe_ix ix_seq (pv 0) pe_int fun _ _ => rfl)) pa_nil)) pe_int) pe_int) pa_nil)) (pv 1)))))), body_ok (g := g__law_draw) (evs_seq (evs_if (evt_test (EvE.x (ev_op (sim_cmp _) (EvE.x (ev_pot (i := 0) (k := 0))) (EvE.x (ev_int _))))) (evs_seq (evs_potN (i := 0) (j := 2) (k := 0) (ev_c2 sim_divmod (EvE.x (ev_pot (i := 0) (k := 0))) (ev_varx 1))) (evs_ret (ev_var 2))) evs_nil) (evs_seq (evs_pot (i := 0) (k := 1) (ev_op sim_mod (EvE.x (ev_c1 sim_int (EvE.x (ev_op sim_add (EvE.x (ev_op sim_mul (EvE.x (ev_pot (i := 0) (k := 1))) (EvE.x (ev_int _)))) (EvE.x (ev_int _)))))) (EvE.x (ev_int _)))) (evs_ret (ev_op sim_mod (EvE.x (ev_c1 sim_int (EvE.x (ev_op sim_div (EvE.x (ev_op sim_mod (EvE.x (ev_c1 sim_int (EvE.x (ev_op sim_mul (EvE.x (ev_pot (i := 0) (k := 1))) (EvE.x (ev_pot (i := 0) (k := 1))))))) (EvE.x (ev_int _)))) (EvE.x (ev_int _)))))) (ev_varx 1))))) h⟩)
/-! #### _law_pick -/
abbrev s__law_pick : Stmt := top 23
abbrev N__law_pick : List Str := ["pot", "some"]
theorem sc__law_pick : FnScope N__law_pick ["pot", "some"] (defScope s__law_pick) := ⟨rfl, rfl, rfl, by decide +kernel, rfl, by decide +kernel, by decide +kernel⟩
def g__law_pick : MS := (sRet (fB gIx (fVx 1) (fCl 2 m__law_draw (aP 0 (aD (fU gLen (fVx 1)) aNil)))))
def m__law_pick : MF := mOf 2 g__law_pick
theorem ok__law_pick {P : Program} {w : World} {K : PySem.W.Frag} {mg : Str → Option Value} {base : Heap} (G : Gs K mg) : Fn P w K mg base 2 "_law_pick" ["pot", "some"] (SPd K 2 m__law_pick) := by
  obtain ⟨fd, F⟩ := G.d__law_pick
  exact fn_mk F G.g__law_pick sc__law_pick (FunD.bindsN F fun _ _ _ _ _ _ us hl => match us, hl with | [_, _], _ => rfl) (kbind_of F fun _ _ _ _ _ _ us hl => match us, hl with | [_, _], _ => rfl) (fun vs H Q ⟨_, _, _, _, _, _, h, _⟩ => h) (fun cdv A outer s H vs Q hr hg h => have hu := hr.units; ⟨_, (pss_one (ps_ret (pe_ix ix_seq (pv 1) (pe_fn ((ok__law_draw G).mono (by decide)) hr hg rfl (pa_cons (pv 0) (pa_cons (pe_callB call_len rfl G.b_len boot_len (pa_cons (pv 1) pa_nil)) pa_nil))) fun _ _ => rfl))), body_ok (g := g__law_pick) (evs_ret (ev_op sim_ix (ev_varx 1) (EvE.x (ev_cl (evar_p (i := 0) (evar_d (ev_c1 sim_len (ev_varx 1)) evar_nil)))))) h⟩)
/-! #### _law_lot -/
abbrev s__law_lot : Stmt := top 24
abbrev N__law_lot : List Str := ["pot", "places", "most", "found", "turn", "place"]
theorem sc__law_lot : FnScope N__law_lot ["pot", "places", "most"] (defScope s__law_lot) := ⟨rfl, rfl, rfl, by decide +kernel, rfl, by decide +kernel, by decide +kernel⟩
def g__law_lot : MS := (sSeq (sSetM 3 (fLst fNil)) (sSeq (sFor (iR1 (fVx 2)) (tName 4) (sSeq (sSet 5 (fCl 2 m__law_draw (aP 0 (aD (fV 1) aNil)))) (sExt 3 (fIfN (fTv (fB (gIn true) (fVx 5) (fVx 3))) (fLst (fCons (fV 5) fNil)) (fLst fNil))))) (sRet (fU gTuple (fL (fUN gSortI (fVx 3)))))))
def m__law_lot : MF := mOf 6 g__law_lot
theorem ok__law_lot {P : Program} {w : World} {K : PySem.W.Frag} {mg : Str → Option Value} {base : Heap} (G : Gs K mg) : Fn P w K mg base 2 "_law_lot" ["pot", "places", "most"] (SPd K 3 m__law_lot) := by
  obtain ⟨fd, F⟩ := G.d__law_lot
  exact fn_mk F G.g__law_lot sc__law_lot (FunD.bindsN F fun _ _ _ _ _ _ us hl => match us, hl with | [_, _, _], _ => rfl) (kbind_of F fun _ _ _ _ _ _ us hl => match us, hl with | [_, _, _], _ => rfl) (fun vs H Q ⟨_, _, _, _, _, _, h, _⟩ => h) (fun cdv A outer s H vs Q hr hg h => have hu := hr.units; ⟨_, (pss_cons (ps_set (i := 3) sc__law_lot.nd rfl (by first | exact Or.inl rfl | exact Or.inr rfl) (pe_lst pa_nil)) (pss_cons (ps_for PassesOwn.never rfl (pi_range1 rfl G.b_range (pa_cons (pv 2) pa_nil)) (pg_name (i := 4) sc__law_lot.nd rfl (by first | exact Or.inl rfl | exact Or.inr rfl)) (pss_cons (ps_set (i := 5) sc__law_lot.nd rfl (by first | exact Or.inl rfl | exact Or.inr rfl) (pe_fn ((ok__law_draw G).mono (by decide)) hr hg rfl (pa_cons (pv 0) (pa_cons (pv 1) pa_nil)))) (pss_one (ps_expr (pe_bm PySem.F.plainAttrs_list PySem.F.slot_list_extend PySem.F.type_list_extend mt_extend (pv 3) (pa_cons (pe_ifExp (pt_cmpR op_notInAll (pv 5) (pv 3) (by rfl)) (pe_lst (pa_cons (pv 5) pa_nil)) (pe_lst pa_nil)) pa_nil)))))) (pss_one (ps_ret (pe_callTy call_tuple_of rfl G.b_tuple boot_tuple (pa_cons (pe_callB cr_sortedI rfl G.b_sorted boot_sorted (pa_cons (pv 3) pa_nil)) pa_nil)))))), body_ok (g := g__law_lot) (evs_seq (evs_setM (i := 3) (ev_lst eva_nil)) (evs_seq (evs_for (vs := [4]) (evi_range1 (ev_varx 2)) (evg_name (i := 4) (by decide)) (evs_seq (evs_set (i := 5) (ev_cl (evar_p (i := 0) (evar_d (ev_var 1) evar_nil)))) (evs_ext (i := 3) (ev_ifN (evt_test (EvE.x (ev_op sim_notIn (ev_varx 5) (ev_varx 3)))) (ev_lst (eva_cons (ev_var 5) eva_nil)) (ev_lst eva_nil))))) (evs_ret (ev_c1 sim_tuple (EvN.x (ev_c1N sim_sortI (ev_varx 3))))))) h⟩)
/-! #### _law_sheet -/
abbrev s__law_sheet : Stmt := top 25
abbrev N__law_sheet : List Str := ["pot", "most", "many", "places", "way", "tasks", "turn", "name", "sizes", "first", "place"]
theorem sc__law_sheet : FnScope N__law_sheet ["pot", "most", "many"] (defScope s__law_sheet) := ⟨rfl, rfl, rfl, by decide +kernel, rfl, by decide +kernel, by decide +kernel⟩
def g__law_sheet : MS := (sSeq (sPar3 3 4 5 (aD (fB gAdd (fC (.int 1)) (fCl 2 m__law_draw (aP 0 (aD (fV 1) aNil)))) (aD (fCl 2 m__law_draw (aP 0 (aD (fC (.int 4)) aNil))) (aN (fLst fNil) aNil)))) (sSeq (sFor (iR1 (fB gAdd (fC (.int 1)) (fCl 2 m__law_draw (aP 0 (aD (fV 2) aNil))))) (tName 6) (sSeq (sSet 7 (fCl 2 m__law_pick (aP 0 (aD (fL (fLst (fCons (fC (.str "")) (fCons (fC (.str "a")) (fCons (fC (.str "b")) (fCons (fC (.str "c")) (fCons (fC (.str "a2")) (fCons (fC (.str "look_at")) fNil)))))))) aNil)))) (sSeq (sSet 8 (fB gIx (fL (fLst (fCons (fTup (fCons (fB gAdd (fC (.int 1)) (fCl 2 m__law_draw (aP 0 (aD (fC (.int 2)) aNil)))) (fCons (fCl 2 m__law_draw (aP 0 (aD (fC (.int 3)) aNil))) fNil))) (fCons (fTup (fCons (fC (.int 1)) (fCons (fC (.int 1)) fNil))) (fCons (fCl 2 m__law_pick (aP 0 (aD (fL (fLst (fCons (fTup (fCons (fC (.int 1)) (fCons (fC (.int 2)) fNil))) (fCons (fTup (fCons (fC (.int 2)) (fCons (fC (.int 1)) fNil))) (fCons (fTup (fCons (fC (.int 1)) (fCons (fC (.int 1)) fNil))) fNil))))) aNil))) (fCons (fTup (fCons (fC (.int 1)) (fCons (fB gAdd (fC (.int 1)) (fCl 2 m__law_draw (aP 0 (aD (fC (.int 2)) aNil)))) fNil))) fNil)))))) (fVx 4))) (sApp 5 (fTup (fCons (fV 7) (fCons (fCl 3 m__law_lot (aP 0 (aD (fV 3) (aD (fB gIx (fVx 8) (fC (.int 0))) aNil)))) (fCons (fCl 3 m__law_lot (aP 0 (aD (fV 3) (aD (fB gIx (fVx 8) (fC (.int 1))) aNil)))) fNil)))))))) (sSeq (sSetM 9 (fLc (iR1 (fVx 3)) [10] (tName 10) bYes (fCl 2 m__law_pick (aP 0 (aD (fL (fLst (fCons (fC (.int 0)) (fCons (fC (.int 0)) (fCons (fC (.int 1)) (fCons (fC (.int 1)) (fCons (fC (.int 2)) fNil))))))) aNil))))) (sSeq (sSetIx 9 (fC (.int 0)) (fB gMax2 (fC (.int 1)) (fB gIx (fVx 9) (fC (.int 0))))) (sRet (fTup (fCons (fC (.str "sheet")) (fCons (fV 3) (fCons (fU gTuple (fVx 5)) (fCons (fU gTuple (fVx 9)) (fCons (fU gTuple (fL (fLc (iR1 (fVx 3)) [10] (tName 10) bYes (fCl 2 m__law_draw (aP 0 (aD (fC (.int 3)) aNil)))))) fNil)))))))))))
def m__law_sheet : MF := mOf 11 g__law_sheet
theorem ok__law_sheet {P : Program} {w : World} {K : PySem.W.Frag} {mg : Str → Option Value} {base : Heap} (G : Gs K mg) : Fn P w K mg base 3 "_law_sheet" ["pot", "most", "many"] (SPd K 3 m__law_sheet) := by
  obtain ⟨fd, F⟩ := G.d__law_sheet
  exact fn_mk F G.g__law_sheet sc__law_sheet (FunD.bindsN F fun _ _ _ _ _ _ us hl => match us, hl with | [_, _, _], _ => rfl) (kbind_of F fun _ _ _ _ _ _ us hl => match us, hl with | [_, _, _], _ => rfl) (fun vs H Q ⟨_, _, _, _, _, _, h, _⟩ => h) (fun cdv A outer s H vs Q hr hg h => have hu := hr.units; ⟨_, (pss_cons (ps_par3 (i := 3) (j := 4) (l := 5) rfl sc__law_sheet.nd rfl rfl rfl (by decide) (by decide) (by decide) rfl rfl rfl (pa_cons (pe_op op_addAll pe_int (pe_fn ((ok__law_draw G).mono (by decide)) hr hg rfl (pa_cons (pv 0) (pa_cons (pv 1) pa_nil)))) (pa_cons (pe_fn ((ok__law_draw G).mono (by decide)) hr hg rfl (pa_cons (pv 0) (pa_cons pe_int pa_nil))) (pa_cons (pe_lst pa_nil) pa_nil))) rfl) (pss_cons (ps_for PassesOwn.never rfl (pi_range1 rfl G.b_range (pa_cons (pe_op op_addAll pe_int (pe_fn ((ok__law_draw G).mono (by decide)) hr hg rfl (pa_cons (pv 0) (pa_cons (pv 2) pa_nil)))) pa_nil)) (pg_name (i := 6) sc__law_sheet.nd rfl (by first | exact Or.inl rfl | exact Or.inr rfl)) (pss_cons (ps_set (i := 7) sc__law_sheet.nd rfl (by first | exact Or.inl rfl | exact Or.inr rfl) (pe_fn ((ok__law_pick G).mono (by decide)) hr hg rfl (pa_cons (pv 0) (pa_cons (pe_lst (pa_cons pe_str (pa_cons pe_str (pa_cons pe_str (pa_cons pe_str (pa_cons pe_str (pa_cons pe_str pa_nil))))))) pa_nil)))) (pss_cons (ps_set (i := 8) sc__law_sheet.nd rfl (by first | exact Or.inl rfl | exact Or.inr rfl) (pe_ix ix_seq (pe_lst (pa_cons (pe_tup (pa_cons (pe_op op_addAll pe_int (pe_fn ((ok__law_draw G).mono (by decide)) hr hg rfl (pa_cons (pv 0) (pa_cons pe_int pa_nil)))) (pa_cons (pe_fn ((ok__law_draw G).mono (by decide)) hr hg rfl (pa_cons (pv 0) (pa_cons pe_int pa_nil))) pa_nil))) (pa_cons (pe_tup (pa_cons pe_int (pa_cons pe_int pa_nil))) (pa_cons (pe_fn ((ok__law_pick G).mono (by decide)) hr hg rfl (pa_cons (pv 0) (pa_cons (pe_lst (pa_cons (pe_tup (pa_cons pe_int (pa_cons pe_int pa_nil))) (pa_cons (pe_tup (pa_cons pe_int (pa_cons pe_int pa_nil))) (pa_cons (pe_tup (pa_cons pe_int (pa_cons pe_int pa_nil))) pa_nil)))) pa_nil))) (pa_cons (pe_tup (pa_cons pe_int (pa_cons (pe_op op_addAll pe_int (pe_fn ((ok__law_draw G).mono (by decide)) hr hg rfl (pa_cons (pv 0) (pa_cons pe_int pa_nil)))) pa_nil))) pa_nil))))) (pv 4) fun _ _ => rfl)) (pss_one (ps_expr (pe_bm PySem.F.plainAttrs_list PySem.F.slot_list_append PySem.F.type_list_append mt_append (pv 5) (pa_cons (pe_tup (pa_cons (pv 7) (pa_cons (pe_fn ((ok__law_lot G).mono (by decide)) hr hg rfl (pa_cons (pv 0) (pa_cons (pv 3) (pa_cons (pe_ix ix_seq (pv 8) pe_int fun _ _ => rfl) pa_nil)))) (pa_cons (pe_fn ((ok__law_lot G).mono (by decide)) hr hg rfl (pa_cons (pv 0) (pa_cons (pv 3) (pa_cons (pe_ix ix_seq (pv 8) pe_int fun _ _ => rfl) pa_nil)))) pa_nil)))) pa_nil))))))) (pss_cons (ps_setLc (own := [("place", 10)]) (i := 9) rfl sc__law_sheet.nd rfl rfl (sw_true rfl rfl rfl (by decide +kernel)) (pi_range1 rfl G.b_range (pa_cons (pv 3) pa_nil)) (show BlkOk N__law_sheet (defScope s__law_sheet) _ _ from blkOk_by (by decide +kernel)) (fun _ _ _ _ _ => (pg_name (i := 10) sc__law_sheet.nd rfl (by first | exact Or.inl rfl | exact Or.inr rfl))) (fun _ _ _ _ _ => pts_nil) (fun _ _ _ _ _ => (pe_fn ((ok__law_pick G).mono (by decide)) hr hg rfl (pa_cons (pv 0) (pa_cons (pe_lst (pa_cons pe_int (pa_cons pe_int (pa_cons pe_int (pa_cons pe_int (pa_cons pe_int pa_nil)))))) pa_nil))))) (pss_cons (ps_asg (pe_callB (call_max2 rfl) rfl G.b_max boot_max (pa_cons pe_int (pa_cons (pe_ix ix_seq (pv 9) pe_int fun _ _ => rfl) pa_nil))) (pg_sub (pv 9) pe_int set_list fun _ => rfl)) (pss_one (ps_ret (pe_tup (pa_cons pe_str (pa_cons (pv 3) (pa_cons (pe_callTy call_tuple_of rfl G.b_tuple boot_tuple (pa_cons (pv 5) pa_nil)) (pa_cons (pe_callTy call_tuple_of rfl G.b_tuple boot_tuple (pa_cons (pv 9) pa_nil)) (pa_cons (pe_callTy call_tuple_of rfl G.b_tuple boot_tuple (pa_cons (pe_lc (own := [("place", 10)]) rfl sc__law_sheet.nd (pi_range1 rfl G.b_range (pa_cons (pv 3) pa_nil)) (show BlkOk N__law_sheet (defScope s__law_sheet) _ _ from blkOk_by (by decide +kernel)) (fun _ _ _ _ _ => (pg_name (i := 10) sc__law_sheet.nd rfl (by first | exact Or.inl rfl | exact Or.inr rfl))) (fun _ _ _ _ _ => pts_nil) (fun _ _ _ _ _ => (pe_fn ((ok__law_draw G).mono (by decide)) hr hg rfl (pa_cons (pv 0) (pa_cons pe_int pa_nil))))) pa_nil)) pa_nil)))))))))))), body_ok (g := g__law_sheet) (evs_seq (evs_par3 (i := 3) (j := 4) (l := 5) (evar_d (ev_op sim_add (EvE.x (ev_int _)) (EvE.x (ev_cl (evar_p (i := 0) (evar_d (ev_var 1) evar_nil))))) (evar_d (ev_cl (evar_p (i := 0) (evar_d (ev_int _) evar_nil))) (evar_n (ev_lst eva_nil) evar_nil)))) (evs_seq (evs_for (vs := [6]) (evi_range1 (EvE.x (ev_op sim_add (EvE.x (ev_int _)) (EvE.x (ev_cl (evar_p (i := 0) (evar_d (ev_var 2) evar_nil))))))) (evg_name (i := 6) (by decide)) (evs_seq (evs_set (i := 7) (ev_cl (evar_p (i := 0) (evar_d (EvN.e (ev_lst (eva_cons (ev_str _) (eva_cons (ev_str _) (eva_cons (ev_str _) (eva_cons (ev_str _) (eva_cons (ev_str _) (eva_cons (ev_str _) eva_nil)))))))) evar_nil)))) (evs_seq (evs_set (i := 8) (ev_op sim_ix (EvN.x (ev_lst (eva_cons (ev_tup (eva_cons (ev_op sim_add (EvE.x (ev_int _)) (EvE.x (ev_cl (evar_p (i := 0) (evar_d (ev_int _) evar_nil))))) (eva_cons (ev_cl (evar_p (i := 0) (evar_d (ev_int _) evar_nil))) eva_nil))) (eva_cons (ev_tup (eva_cons (ev_int _) (eva_cons (ev_int _) eva_nil))) (eva_cons (ev_cl (evar_p (i := 0) (evar_d (EvN.e (ev_lst (eva_cons (ev_tup (eva_cons (ev_int _) (eva_cons (ev_int _) eva_nil))) (eva_cons (ev_tup (eva_cons (ev_int _) (eva_cons (ev_int _) eva_nil))) (eva_cons (ev_tup (eva_cons (ev_int _) (eva_cons (ev_int _) eva_nil))) eva_nil))))) evar_nil))) (eva_cons (ev_tup (eva_cons (ev_int _) (eva_cons (ev_op sim_add (EvE.x (ev_int _)) (EvE.x (ev_cl (evar_p (i := 0) (evar_d (ev_int _) evar_nil))))) eva_nil))) eva_nil)))))) (ev_varx 4))) (evs_app (i := 5) (ev_tup (eva_cons (ev_var 7) (eva_cons (ev_cl (evar_p (i := 0) (evar_d (ev_var 3) (evar_d (ev_op sim_ix (ev_varx 8) (EvE.x (ev_int _))) evar_nil)))) (eva_cons (ev_cl (evar_p (i := 0) (evar_d (ev_var 3) (evar_d (ev_op sim_ix (ev_varx 8) (EvE.x (ev_int _))) evar_nil)))) eva_nil)))))))) (evs_seq (evs_setM (i := 9) (ev_lc (own := [10]) (evi_range1 (ev_varx 3)) (evg_name (i := 10) (by decide)) evt_yes (ev_cl (evar_p (i := 0) (evar_d (EvN.e (ev_lst (eva_cons (ev_int _) (eva_cons (ev_int _) (eva_cons (ev_int _) (eva_cons (ev_int _) (eva_cons (ev_int _) eva_nil))))))) evar_nil))))) (evs_seq (evs_setIx (i := 9) (ev_c2 sim_max2 (EvE.x (ev_int _)) (EvE.x (ev_op sim_ix (ev_varx 9) (EvE.x (ev_int _))))) (EvE.x (ev_int _))) (evs_ret (ev_tup (eva_cons (ev_str _) (eva_cons (ev_var 3) (eva_cons (ev_c1 sim_tuple (ev_varx 5)) (eva_cons (ev_c1 sim_tuple (ev_varx 9)) (eva_cons (ev_c1 sim_tuple (EvN.x (ev_lc (own := [10]) (evi_range1 (ev_varx 3)) (evg_name (i := 10) (by decide)) evt_yes (ev_cl (evar_p (i := 0) (evar_d (ev_int _) evar_nil)))))) eva_nil))))))))))) h⟩)
/-! #### _law_number -/
abbrev s__law_number : Stmt := top 27
abbrev N__law_number : List Str := ["value", "least", "most"]
theorem sc__law_number : FnScope N__law_number ["value", "least", "most"] (defScope s__law_number) := ⟨rfl, rfl, rfl, by decide +kernel, rfl, by decide +kernel, by decide +kernel⟩
def g__law_number : MS := (sRet (fAndV (fIsi "int" (fVx 0)) (fAndV (fNotV (fIsi "bool" (fVx 0))) (fCh gLe gLe (fVx 1) (fVx 0) (fVx 2)))))
def m__law_number : MF := mOf 3 g__law_number
theorem ok__law_number {P : Program} {w : World} {K : PySem.W.Frag} {mg : Str → Option Value} {base : Heap} (G : Gs K mg) : Fn P w K mg base 1 "_law_number" ["value", "least", "most"] (SPd K 3 m__law_number) := by
  obtain ⟨fd, F⟩ := G.d__law_number
  exact fn_mk F G.g__law_number sc__law_number (FunD.bindsN F fun _ _ _ _ _ _ us hl => match us, hl with | [_, _, _], _ => rfl) (kbind_of F fun _ _ _ _ _ _ us hl => match us, hl with | [_, _, _], _ => rfl) (fun vs H Q ⟨_, _, _, _, _, _, h, _⟩ => h) (fun cdv A outer s H vs Q hr hg h => have hu := hr.units; ⟨_, (pss_one (ps_ret (pe_and (pe_callB call_isi rfl G.b_isinstance boot_isinstance (pa_cons (pv 0) (pa_cons (pe_ty rfl G.b_int boot_int) pa_nil))) (pe_and (pe_not (pe_callB call_isi rfl G.b_isinstance boot_isinstance (pa_cons (pv 0) (pa_cons (pe_ty rfl G.b_bool boot_bool) pa_nil)))) (pe_one (pe_chain op_le op_le (pv 1) (pv 0) (pv 2))))))), body_ok (g := g__law_number) (evs_ret (ev_andV (EvE.x (ev_isi (ev_varx 0))) (ev_andV (EvE.x (ev_notV (EvE.x (ev_isi (ev_varx 0))))) (ev_chain (sim_cmp _) (sim_cmp _) (ev_varx 1) (ev_varx 0) (ev_varx 2))))) h⟩)
/-! #### _law_is_standing -/
abbrev s__law_is_standing : Stmt := top 31
abbrev N__law_is_standing : List Str := ["value", "places", "one"]
theorem sc__law_is_standing : FnScope N__law_is_standing ["value", "places"] (defScope s__law_is_standing) := ⟨rfl, rfl, rfl, by decide +kernel, rfl, by decide +kernel, by decide +kernel⟩
def g__law_is_standing : MS := (sRet (fAndV (fIsi "tuple" (fVx 0)) (fAndV (fB (gEq false) (fU gLen (fVx 0)) (fVx 1)) (fU gAll (fL (fLc (iT (fV 0)) [2] (tName 2) bYes (fCl 3 m__law_number (aD (fV 2) (aD (fC (.int 0)) (aD (fC (.int 9)) aNil))))))))))
def m__law_is_standing : MF := mOf 3 g__law_is_standing
theorem ok__law_is_standing {P : Program} {w : World} {K : PySem.W.Frag} {mg : Str → Option Value} {base : Heap} (G : Gs K mg) : Fn P w K mg base 2 "_law_is_standing" ["value", "places"] (SPd K 2 m__law_is_standing) := by
  obtain ⟨fd, F⟩ := G.d__law_is_standing
  exact fn_mk F G.g__law_is_standing sc__law_is_standing (FunD.bindsN F fun _ _ _ _ _ _ us hl => match us, hl with | [_, _], _ => rfl) (kbind_of F fun _ _ _ _ _ _ us hl => match us, hl with | [_, _], _ => rfl) (fun vs H Q ⟨_, _, _, _, _, _, h, _⟩ => h) (fun cdv A outer s H vs Q hr hg h => have hu := hr.units; ⟨_, (pss_one (ps_ret (pe_and (pe_callB call_isi rfl G.b_isinstance boot_isinstance (pa_cons (pv 0) (pa_cons (pe_ty rfl G.b_tuple boot_tuple) pa_nil))) (pe_and (pe_cmpR (op_eqY hu) (pe_callB call_len rfl G.b_len boot_len (pa_cons (pv 0) pa_nil)) (pv 1) (nomark _)) (pe_one (pe_callB (cr_all rfl) rfl G.b_all boot_all (pa_cons (pe_lc (own := [("one", 2)]) rfl sc__law_is_standing.nd (pi_tup (pv 0)) (show BlkOk N__law_is_standing (defScope s__law_is_standing) _ _ from blkOk_by (by decide +kernel)) (fun _ _ _ _ _ => (pg_name (i := 2) sc__law_is_standing.nd rfl (by first | exact Or.inl rfl | exact Or.inr rfl))) (fun _ _ _ _ _ => pts_nil) (fun _ _ _ _ _ => (pe_fn ((ok__law_number G).mono (by decide)) hr hg rfl (pa_cons (pv 2) (pa_cons pe_int (pa_cons pe_int pa_nil)))))) pa_nil))))))), body_ok (g := g__law_is_standing) (evs_ret (ev_andV (EvE.x (ev_isi (ev_varx 0))) (ev_andV (EvE.x (ev_op (sim_eq false) (EvE.x (ev_c1 sim_len (ev_varx 0))) (ev_varx 1))) (ev_c1 sim_all (EvN.x (ev_lc (own := [2]) (evi_tup (ev_var 0)) (evg_name (i := 2) (by decide)) evt_yes (ev_cl (evar_d (ev_var 2) (evar_d (ev_int _) (evar_d (ev_int _) evar_nil)))))))))) h⟩)
/-! #### _law_are_places -/
abbrev s__law_are_places : Stmt := top 29
abbrev N__law_are_places : List Str := ["value", "places", "one"]
theorem sc__law_are_places : FnScope N__law_are_places ["value", "places"] (defScope s__law_are_places) := ⟨rfl, rfl, rfl, by decide +kernel, rfl, by decide +kernel, by decide +kernel⟩
def g__law_are_places : MS := (sSeq (sIf (fOrT (fNotT (fTv (fIsi "tuple" (fVx 0)))) (fNotT (fTv (fU gAll (fL (fLc (iT (fV 0)) [2] (tName 2) bYes (fCl 3 m__law_number (aD (fV 2) (aD (fC (.int 0)) (aD (fB gSubI (fVx 1) (fC (.int 1))) aNil)))))))))) (sRet (fC (.bool false))) sNil) (sRet (fB (gEq false) (fL (fUN gList (fVx 0))) (fL (fUN gSortSet (fVx 0))))))
def m__law_are_places : MF := mOf 3 g__law_are_places
theorem ok__law_are_places {P : Program} {w : World} {K : PySem.W.Frag} {mg : Str → Option Value} {base : Heap} (G : Gs K mg) : Fn P w K mg base 2 "_law_are_places" ["value", "places"] (SPd K 2 m__law_are_places) := by
  obtain ⟨fd, F⟩ := G.d__law_are_places
  exact fn_mk F G.g__law_are_places sc__law_are_places (FunD.bindsN F fun _ _ _ _ _ _ us hl => match us, hl with | [_, _], _ => rfl) (kbind_of F fun _ _ _ _ _ _ us hl => match us, hl with | [_, _], _ => rfl) (fun vs H Q ⟨_, _, _, _, _, _, h, _⟩ => h) (fun cdv A outer s H vs Q hr hg h => have hu := hr.units; ⟨_, (pss_cons (ps_if (PW.pt (pw_or (pt_not (pt_val (pe_callB call_isi rfl G.b_isinstance boot_isinstance (pa_cons (pv 0) (pa_cons (pe_ty rfl G.b_tuple boot_tuple) pa_nil))))) (pw_or1 (pt_not (pt_val (pe_callB (cr_all rfl) rfl G.b_all boot_all (pa_cons (pe_lc (own := [("one", 2)]) rfl sc__law_are_places.nd (pi_tup (pv 0)) (show BlkOk N__law_are_places (defScope s__law_are_places) _ _ from blkOk_by (by decide +kernel)) (fun _ _ _ _ _ => (pg_name (i := 2) sc__law_are_places.nd rfl (by first | exact Or.inl rfl | exact Or.inr rfl))) (fun _ _ _ _ _ => pts_nil) (fun _ _ _ _ _ => (pe_fn ((ok__law_number G).mono (by decide)) hr hg rfl (pa_cons (pv 2) (pa_cons pe_int (pa_cons (pe_op op_subAll (pv 1) pe_int) pa_nil)))))) pa_nil))))))) (pss_one (ps_ret pe_bl)) pss_nil) (pss_one (ps_ret (pe_cmpR (op_eqY hu) (pe_callTy call_list_of rfl G.b_list boot_list (pa_cons (pv 0) pa_nil)) (pe_callB (cr_sortedSet rfl) rfl G.b_sorted boot_sorted (pa_cons (pe_callTy (call_setT rfl) rfl G.b_set boot_set (pa_cons (pv 0) pa_nil)) pa_nil)) (nomark _))))), body_ok (g := g__law_are_places) (evs_seq (evs_if (evt_or (evt_not (evt_val (EvE.x (ev_isi (ev_varx 0))))) (evt_not (evt_val (EvE.x (ev_c1 sim_all (EvN.x (ev_lc (own := [2]) (evi_tup (ev_var 0)) (evg_name (i := 2) (by decide)) evt_yes (ev_cl (evar_d (ev_var 2) (evar_d (ev_int _) (evar_d (ev_op sim_sub (ev_varx 1) (EvE.x (ev_int _))) evar_nil))))))))))) (evs_ret (ev_bl _)) evs_nil) (evs_ret (ev_op (sim_eq false) (EvN.x (ev_c1N sim_list (ev_varx 0))) (EvN.x (ev_sortSet (ev_varx 0)))))) h⟩)
/-! #### _law_is_name -/
abbrev s__law_is_name : Stmt := top 28
abbrev N__law_is_name : List Str := ["value", "small", "sign"]
theorem sc__law_is_name : FnScope N__law_is_name ["value"] (defScope s__law_is_name) := ⟨rfl, rfl, rfl, by decide +kernel, rfl, by decide +kernel, by decide +kernel⟩
def g__law_is_name : MS := (sSeq (sSet 1 (fC (.str "abcdefghijklmnopqrstuvwxyz"))) (sSeq (sIf (fOrT (fNotT (fTv (fIsi "str" (fVx 0)))) (fOrT (fTv (fB gGt (fU gLen (fVx 0)) (fC (.int 12)))) (fOrT (fTv (fB (gEq false) (fVx 0) (fC (.str "")))) (fTv (fB (gIn true) (fB gIx (fVx 0) (fC (.int 0))) (fVx 1)))))) (sRet (fC (.bool false))) sNil) (sRet (fB (gEq false) (fL (fLc (iS (fVx 0)) [2] (tName 2) (fTv (fB (gIn true) (fVx 2) (fB gAdd (fVx 1) (fC (.str "0123456789_"))))) (fV 2))) (fL (fLst fNil))))))
def m__law_is_name : MF := mOf 3 g__law_is_name
theorem ok__law_is_name {P : Program} {w : World} {K : PySem.W.Frag} {mg : Str → Option Value} {base : Heap} (G : Gs K mg) : Fn P w K mg base 1 "_law_is_name" ["value"] (SPd K 1 m__law_is_name) := by
  obtain ⟨fd, F⟩ := G.d__law_is_name
  exact fn_mk F G.g__law_is_name sc__law_is_name (FunD.bindsN F fun _ _ _ _ _ _ us hl => match us, hl with | [_], _ => rfl) (kbind_of F fun _ _ _ _ _ _ us hl => match us, hl with | [_], _ => rfl) (fun vs H Q ⟨_, _, _, _, _, _, h, _⟩ => h) (fun cdv A outer s H vs Q hr hg h => have hu := hr.units; ⟨_, (pss_cons (ps_set (i := 1) sc__law_is_name.nd rfl (by first | exact Or.inl rfl | exact Or.inr rfl) pe_str) (pss_cons (ps_if (PW.pt (pw_or (pt_not (pt_val (pe_callB call_isi rfl G.b_isinstance boot_isinstance (pa_cons (pv 0) (pa_cons (pe_ty rfl G.b_str boot_str) pa_nil))))) (pw_or (pt_cmpR op_gt (pe_callB call_len rfl G.b_len boot_len (pa_cons (pv 0) pa_nil)) pe_int (nomark _)) (pw_or (pt_cmpR (op_eqY hu) (pv 0) pe_str (nomark _)) (pw_or1 (pt_cmpR op_notInAll (pe_ix ix_seq (pv 0) pe_int fun _ _ => rfl) (pv 1) (by rfl))))))) (pss_one (ps_ret pe_bl)) pss_nil) (pss_one (ps_ret (pe_cmpR (op_eqY hu) (pe_lc (own := [("sign", 2)]) rfl sc__law_is_name.nd (pi_str (pv 0)) (show BlkOk N__law_is_name (defScope s__law_is_name) _ _ from blkOk_by (by decide +kernel)) (fun _ _ _ _ _ => (pg_name (i := 2) sc__law_is_name.nd rfl (by first | exact Or.inl rfl | exact Or.inr rfl))) (fun _ _ _ _ _ => (pts_one (pt_cmpR op_notInAll (pv 2) (pe_op op_addAll (pv 1) pe_str) (by rfl)))) (fun _ _ _ _ _ => (pv 2))) (pe_lst pa_nil) (nomark _)))))), body_ok (g := g__law_is_name) (evs_seq (evs_set (i := 1) (ev_str _)) (evs_seq (evs_if (evt_or (evt_not (evt_val (EvE.x (ev_isi (ev_varx 0))))) (evt_or (evt_test (EvE.x (ev_op (sim_cmp _) (EvE.x (ev_c1 sim_len (ev_varx 0))) (EvE.x (ev_int _))))) (evt_or (evt_test (EvE.x (ev_op (sim_eq false) (ev_varx 0) (EvE.x (ev_str _))))) (evt_test (EvE.x (ev_op sim_notIn (EvE.x (ev_op sim_ix (ev_varx 0) (EvE.x (ev_int _)))) (ev_varx 1))))))) (evs_ret (ev_bl _)) evs_nil) (evs_ret (ev_op (sim_eq false) (EvN.x (ev_lc (own := [2]) (evi_str (ev_varx 0)) (evg_name (i := 2) (by decide)) (evt_test (EvE.x (ev_op sim_notIn (ev_varx 2) (EvE.x (ev_op sim_add (ev_varx 1) (EvE.x (ev_str _))))))) (ev_var 2))) (EvN.x (ev_lst eva_nil)))))) h⟩)
/-! #### _law_is_task -/
abbrev s__law_is_task : Stmt := top 30
abbrev N__law_is_task : List Str := ["value", "places"]
theorem sc__law_is_task : FnScope N__law_is_task ["value", "places"] (defScope s__law_is_task) := ⟨rfl, rfl, rfl, by decide +kernel, rfl, by decide +kernel, by decide +kernel⟩
def g__law_is_task : MS := (sSeq (sIf (fOrT (fNotT (fTv (fIsi "tuple" (fVx 0)))) (fOrT (fTv (fB (gEq true) (fU gLen (fVx 0)) (fC (.int 3)))) (fNotT (fTv (fIsi "str" (fB gIx (fVx 0) (fC (.int 0)))))))) (sRet (fC (.bool false))) sNil) (sSeq (sIf (fAndT (fTv (fB (gEq true) (fB gIx (fVx 0) (fC (.int 0))) (fC (.str "")))) (fNotT (fTv (fCl 1 m__law_is_name (aD (fB gIx (fVx 0) (fC (.int 0))) aNil))))) (sRet (fC (.bool false))) sNil) (sRet (fAndV (fCl 2 m__law_are_places (aD (fB gIx (fVx 0) (fC (.int 1))) (aD (fV 1) aNil))) (fAndV (fB gGt (fU gLen (fB gIx (fVx 0) (fC (.int 1)))) (fC (.int 0))) (fCl 2 m__law_are_places (aD (fB gIx (fVx 0) (fC (.int 2))) (aD (fV 1) aNil))))))))
def m__law_is_task : MF := mOf 2 g__law_is_task
theorem ok__law_is_task {P : Program} {w : World} {K : PySem.W.Frag} {mg : Str → Option Value} {base : Heap} (G : Gs K mg) : Fn P w K mg base 3 "_law_is_task" ["value", "places"] (SPd K 2 m__law_is_task) := by
  obtain ⟨fd, F⟩ := G.d__law_is_task
  exact fn_mk F G.g__law_is_task sc__law_is_task (FunD.bindsN F fun _ _ _ _ _ _ us hl => match us, hl with | [_, _], _ => rfl) (kbind_of F fun _ _ _ _ _ _ us hl => match us, hl with | [_, _], _ => rfl) (fun vs H Q ⟨_, _, _, _, _, _, h, _⟩ => h) (fun cdv A outer s H vs Q hr hg h => have hu := hr.units; ⟨_, (pss_cons (ps_if (PW.pt (pw_or (pt_not (pt_val (pe_callB call_isi rfl G.b_isinstance boot_isinstance (pa_cons (pv 0) (pa_cons (pe_ty rfl G.b_tuple boot_tuple) pa_nil))))) (pw_or (pt_cmpR (op_neY hu) (pe_callB call_len rfl G.b_len boot_len (pa_cons (pv 0) pa_nil)) pe_int (nomark _)) (pw_or1 (pt_not (pt_val (pe_callB call_isi rfl G.b_isinstance boot_isinstance (pa_cons (pe_ix ix_seq (pv 0) pe_int fun _ _ => rfl) (pa_cons (pe_ty rfl G.b_str boot_str) pa_nil))))))))) (pss_one (ps_ret pe_bl)) pss_nil) (pss_cons (ps_if (PW.pt (pw_and (pt_cmpR (op_neY hu) (pe_ix ix_seq (pv 0) pe_int fun _ _ => rfl) pe_str (nomark _)) (pw_and1 (pt_not (pt_val (pe_fn ((ok__law_is_name G).mono (by decide)) hr hg rfl (pa_cons (pe_ix ix_seq (pv 0) pe_int fun _ _ => rfl) pa_nil))))))) (pss_one (ps_ret pe_bl)) pss_nil) (pss_one (ps_ret (pe_and (pe_fn ((ok__law_are_places G).mono (by decide)) hr hg rfl (pa_cons (pe_ix ix_seq (pv 0) pe_int fun _ _ => rfl) (pa_cons (pv 1) pa_nil))) (pe_and (pe_cmpR op_gt (pe_callB call_len rfl G.b_len boot_len (pa_cons (pe_ix ix_seq (pv 0) pe_int fun _ _ => rfl) pa_nil)) pe_int (nomark _)) (pe_one (pe_fn ((ok__law_are_places G).mono (by decide)) hr hg rfl (pa_cons (pe_ix ix_seq (pv 0) pe_int fun _ _ => rfl) (pa_cons (pv 1) pa_nil)))))))))), body_ok (g := g__law_is_task) (evs_seq (evs_if (evt_or (evt_not (evt_val (EvE.x (ev_isi (ev_varx 0))))) (evt_or (evt_test (EvE.x (ev_op (sim_eq true) (EvE.x (ev_c1 sim_len (ev_varx 0))) (EvE.x (ev_int _))))) (evt_not (evt_val (EvE.x (ev_isi (EvE.x (ev_op sim_ix (ev_varx 0) (EvE.x (ev_int _)))))))))) (evs_ret (ev_bl _)) evs_nil) (evs_seq (evs_if (evt_and (evt_test (EvE.x (ev_op (sim_eq true) (EvE.x (ev_op sim_ix (ev_varx 0) (EvE.x (ev_int _)))) (EvE.x (ev_str _))))) (evt_not (evt_val (EvE.x (ev_cl (evar_d (ev_op sim_ix (ev_varx 0) (EvE.x (ev_int _))) evar_nil)))))) (evs_ret (ev_bl _)) evs_nil) (evs_ret (ev_andV (EvE.x (ev_cl (evar_d (ev_op sim_ix (ev_varx 0) (EvE.x (ev_int _))) (evar_d (ev_var 1) evar_nil)))) (ev_andV (EvE.x (ev_op (sim_cmp _) (EvE.x (ev_c1 sim_len (EvE.x (ev_op sim_ix (ev_varx 0) (EvE.x (ev_int _)))))) (EvE.x (ev_int _)))) (ev_cl (evar_d (ev_op sim_ix (ev_varx 0) (EvE.x (ev_int _))) (evar_d (ev_var 1) evar_nil)))))))) h⟩)
/-! #### _law_flaw -/
abbrev s__law_flaw : Stmt := top 32
abbrev N__law_flaw : List Str := ["value", "wrong", "task", "one"]
theorem sc__law_flaw : FnScope N__law_flaw ["value"] (defScope s__law_flaw) := ⟨rfl, rfl, rfl, by decide +kernel, rfl, by decide +kernel, by decide +kernel⟩
def g__law_flaw : MS := (sSeq (sIf (fOrT (fNotT (fTv (fIsi "tuple" (fVx 0)))) (fOrT (fTv (fB (gEq true) (fU gLen (fVx 0)) (fC (.int 5)))) (fOrT (fNotT (fTv (fIsi "str" (fB gIx (fVx 0) (fC (.int 0)))))) (fTv (fB (gEq true) (fB gIx (fVx 0) (fC (.int 0))) (fC (.str "sheet"))))))) (sRet (fTup (fCons (fC (.str "form")) (fCons (fC .none) fNil)))) sNil) (sSeq (sIf (fNotT (fTv (fCl 3 m__law_number (aD (fB gIx (fVx 0) (fC (.int 1))) (aD (fC (.int 1)) (aD (fC (.int 16)) aNil)))))) (sRet (fTup (fCons (fC (.str "places")) (fCons (fC .none) fNil)))) sNil) (sSeq (sIf (fOrT (fNotT (fTv (fIsi "tuple" (fB gIx (fVx 0) (fC (.int 2)))))) (fNotT (fTv (fCh gLe gLe (fC (.int 1)) (fU gLen (fB gIx (fVx 0) (fC (.int 2)))) (fC (.int 24)))))) (sRet (fTup (fCons (fC (.str "tasks")) (fCons (fC .none) fNil)))) sNil) (sSeq (sSet 1 (fL (fLc (iE (fB gIx (fVx 0) (fC (.int 2)))) [2, 3] (tTupG (tsCons (tName 2) (tsCons (tName 3) tsNil)) 2) (fNotT (fTv (fCl 2 m__law_is_task (aD (fV 3) (aD (fB gIx (fVx 0) (fC (.int 1))) aNil))))) (fV 2)))) (sSeq (sIf (fTv (fB (gEq true) (fVx 1) (fL (fLst fNil)))) (sRet (fTup (fCons (fC (.str "task")) (fCons (fB gIx (fVx 1) (fC (.int 0))) fNil)))) sNil) (sSeq (sIf (fNotT (fTv (fCl 2 m__law_is_standing (aD (fB gIx (fVx 0) (fC (.int 3))) (aD (fB gIx (fVx 0) (fC (.int 1))) aNil))))) (sRet (fTup (fCons (fC (.str "first")) (fCons (fC .none) fNil)))) sNil) (sRet (fIf (fTv (fCl 2 m__law_is_standing (aD (fB gIx (fVx 0) (fC (.int 4))) (aD (fB gIx (fVx 0) (fC (.int 1))) aNil)))) (fC .none) (fTup (fCons (fC (.str "last")) (fCons (fC .none) fNil)))))))))))
def m__law_flaw : MF := mOf 4 g__law_flaw
theorem ok__law_flaw {P : Program} {w : World} {K : PySem.W.Frag} {mg : Str → Option Value} {base : Heap} (G : Gs K mg) : Fn P w K mg base 4 "_law_flaw" ["value"] (SPd K 1 m__law_flaw) := by
  obtain ⟨fd, F⟩ := G.d__law_flaw
  exact fn_mk F G.g__law_flaw sc__law_flaw (FunD.bindsN F fun _ _ _ _ _ _ us hl => match us, hl with | [_], _ => rfl) (kbind_of F fun _ _ _ _ _ _ us hl => match us, hl with | [_], _ => rfl) (fun vs H Q ⟨_, _, _, _, _, _, h, _⟩ => h) (fun cdv A outer s H vs Q hr hg h => have hu := hr.units; ⟨_, (pss_cons (ps_if (PW.pt (pw_or (pt_not (pt_val (pe_callB call_isi rfl G.b_isinstance boot_isinstance (pa_cons (pv 0) (pa_cons (pe_ty rfl G.b_tuple boot_tuple) pa_nil))))) (pw_or (pt_cmpR (op_neY hu) (pe_callB call_len rfl G.b_len boot_len (pa_cons (pv 0) pa_nil)) pe_int (nomark _)) (pw_or (pt_not (pt_val (pe_callB call_isi rfl G.b_isinstance boot_isinstance (pa_cons (pe_ix ix_seq (pv 0) pe_int fun _ _ => rfl) (pa_cons (pe_ty rfl G.b_str boot_str) pa_nil))))) (pw_or1 (pt_cmpR (op_neY hu) (pe_ix ix_seq (pv 0) pe_int fun _ _ => rfl) pe_str (nomark _))))))) (pss_one (ps_ret (pe_tup (pa_cons pe_str (pa_cons pe_non pa_nil))))) pss_nil) (pss_cons (ps_if (pt_not (pt_val (pe_fn ((ok__law_number G).mono (by decide)) hr hg rfl (pa_cons (pe_ix ix_seq (pv 0) pe_int fun _ _ => rfl) (pa_cons pe_int (pa_cons pe_int pa_nil)))))) (pss_one (ps_ret (pe_tup (pa_cons pe_str (pa_cons pe_non pa_nil))))) pss_nil) (pss_cons (ps_if (PW.pt (pw_or (pt_not (pt_val (pe_callB call_isi rfl G.b_isinstance boot_isinstance (pa_cons (pe_ix ix_seq (pv 0) pe_int fun _ _ => rfl) (pa_cons (pe_ty rfl G.b_tuple boot_tuple) pa_nil))))) (pw_or1 (pt_not (pt_chain op_le op_le pe_int (pe_callB call_len rfl G.b_len boot_len (pa_cons (pe_ix ix_seq (pv 0) pe_int fun _ _ => rfl) pa_nil)) pe_int))))) (pss_one (ps_ret (pe_tup (pa_cons pe_str (pa_cons pe_non pa_nil))))) pss_nil) (pss_cons (ps_setLc (own := [("task", 2), ("one", 3)]) (i := 1) rfl sc__law_flaw.nd rfl rfl (sw_true rfl rfl rfl (by decide +kernel)) (pi_enumA rfl G.b_enumerate (pa_cons (pe_ix ix_seq (pv 0) pe_int fun _ _ => rfl) pa_nil)) (show BlkOk N__law_flaw (defScope s__law_flaw) _ _ from blkOk_by (by decide +kernel)) (fun _ _ _ _ _ => (pg_tup rfl (pgs_cons (pg_name (i := 2) sc__law_flaw.nd rfl (by first | exact Or.inl rfl | exact Or.inr rfl)) (pgs_cons (pg_name (i := 3) sc__law_flaw.nd rfl (by first | exact Or.inl rfl | exact Or.inr rfl)) pgs_nil)))) (fun _ _ _ _ _ => (pts_one (pt_not (pt_val (pe_fn ((ok__law_is_task G).mono (by decide)) hr hg rfl (pa_cons (pv 3) (pa_cons (pe_ix ix_seq (pv 0) pe_int fun _ _ => rfl) pa_nil))))))) (fun _ _ _ _ _ => (pv 2))) (pss_cons (ps_if (pt_cmpR (op_neY hu) (pv 1) (pe_lst pa_nil) (nomark _)) (pss_one (ps_ret (pe_tup (pa_cons pe_str (pa_cons (pe_ix ix_seq (pv 1) pe_int fun _ _ => rfl) pa_nil))))) pss_nil) (pss_cons (ps_if (pt_not (pt_val (pe_fn ((ok__law_is_standing G).mono (by decide)) hr hg rfl (pa_cons (pe_ix ix_seq (pv 0) pe_int fun _ _ => rfl) (pa_cons (pe_ix ix_seq (pv 0) pe_int fun _ _ => rfl) pa_nil))))) (pss_one (ps_ret (pe_tup (pa_cons pe_str (pa_cons pe_non pa_nil))))) pss_nil) (pss_one (ps_ret (pe_ifExp (pt_val (pe_fn ((ok__law_is_standing G).mono (by decide)) hr hg rfl (pa_cons (pe_ix ix_seq (pv 0) pe_int fun _ _ => rfl) (pa_cons (pe_ix ix_seq (pv 0) pe_int fun _ _ => rfl) pa_nil)))) pe_non (pe_tup (pa_cons pe_str (pa_cons pe_non pa_nil)))))))))))), body_ok (g := g__law_flaw) (evs_seq (evs_if (evt_or (evt_not (evt_val (EvE.x (ev_isi (ev_varx 0))))) (evt_or (evt_test (EvE.x (ev_op (sim_eq true) (EvE.x (ev_c1 sim_len (ev_varx 0))) (EvE.x (ev_int _))))) (evt_or (evt_not (evt_val (EvE.x (ev_isi (EvE.x (ev_op sim_ix (ev_varx 0) (EvE.x (ev_int _)))))))) (evt_test (EvE.x (ev_op (sim_eq true) (EvE.x (ev_op sim_ix (ev_varx 0) (EvE.x (ev_int _)))) (EvE.x (ev_str _)))))))) (evs_ret (ev_tup (eva_cons (ev_str _) (eva_cons ev_non eva_nil)))) evs_nil) (evs_seq (evs_if (evt_not (evt_val (EvE.x (ev_cl (evar_d (ev_op sim_ix (ev_varx 0) (EvE.x (ev_int _))) (evar_d (ev_int _) (evar_d (ev_int _) evar_nil))))))) (evs_ret (ev_tup (eva_cons (ev_str _) (eva_cons ev_non eva_nil)))) evs_nil) (evs_seq (evs_if (evt_or (evt_not (evt_val (EvE.x (ev_isi (EvE.x (ev_op sim_ix (ev_varx 0) (EvE.x (ev_int _)))))))) (evt_not (evt_test (EvE.x (ev_chain (sim_cmp _) (sim_cmp _) (EvE.x (ev_int _)) (EvE.x (ev_c1 sim_len (EvE.x (ev_op sim_ix (ev_varx 0) (EvE.x (ev_int _)))))) (EvE.x (ev_int _))))))) (evs_ret (ev_tup (eva_cons (ev_str _) (eva_cons ev_non eva_nil)))) evs_nil) (evs_seq (evs_set (i := 1) (EvN.e (ev_lc (own := [2, 3]) (evi_enum (ev_op sim_ix (ev_varx 0) (EvE.x (ev_int _)))) (evg_tup (evgs_cons (evg_name (i := 2) (by decide)) (evgs_cons (evg_name (i := 3) (by decide)) evgs_nil))) (evt_not (evt_val (EvE.x (ev_cl (evar_d (ev_var 3) (evar_d (ev_op sim_ix (ev_varx 0) (EvE.x (ev_int _))) evar_nil)))))) (ev_var 2)))) (evs_seq (evs_if (evt_test (EvE.x (ev_op (sim_eq true) (ev_varx 1) (EvN.x (ev_lst eva_nil))))) (evs_ret (ev_tup (eva_cons (ev_str _) (eva_cons (ev_op sim_ix (ev_varx 1) (EvE.x (ev_int _))) eva_nil)))) evs_nil) (evs_seq (evs_if (evt_not (evt_val (EvE.x (ev_cl (evar_d (ev_op sim_ix (ev_varx 0) (EvE.x (ev_int _))) (evar_d (ev_op sim_ix (ev_varx 0) (EvE.x (ev_int _))) evar_nil)))))) (evs_ret (ev_tup (eva_cons (ev_str _) (eva_cons ev_non eva_nil)))) evs_nil) (evs_ret (ev_if (evt_val (EvE.x (ev_cl (evar_d (ev_op sim_ix (ev_varx 0) (EvE.x (ev_int _))) (evar_d (ev_op sim_ix (ev_varx 0) (EvE.x (ev_int _))) evar_nil))))) ev_non (ev_tup (eva_cons (ev_str _) (eva_cons ev_non eva_nil))))))))))) h⟩)
/-! #### _law_edges -/
abbrev s__law_edges : Stmt := top 34
abbrev N__law_edges : List Str := ["sheet", "word", "places", "tasks", "first", "last", "some", "many", "row", "name"]
theorem sc__law_edges : FnScope N__law_edges ["sheet"] (defScope s__law_edges) := ⟨rfl, rfl, rfl, by decide +kernel, rfl, by decide +kernel, by decide +kernel⟩
def g__law_edges : MS := (sSeq (sUnp (tTupG (tsCons (tName 1) (tsCons (tName 2) (tsCons (tName 3) (tsCons (tName 4) (tsCons (tName 5) tsNil))))) 5) (fV 0)) (sSeq (sSetM 6 (fLst (fCons (fTup (fCons (fV 1) (fCons (fV 2) (fCons (fB gMul (fVx 3) (fC (.int 25))) (fCons (fV 4) (fCons (fV 5) fNil)))))) (fCons (fTup (fCons (fV 1) (fCons (fV 2) (fCons (fB gMul (fSlA (fVx 3) oNone (oSome (fC (.int 1)))) (fC (.int 24))) (fCons (fV 4) (fCons (fV 5) fNil)))))) (fCons (fTup (fCons (fV 1) (fCons (fV 2) (fCons (fB gMul (fSlA (fVx 3) oNone (oSome (fC (.int 1)))) (fC (.int 25))) (fCons (fV 4) (fCons (fV 5) fNil)))))) fNil))))) (sSeq (sFor (iL (fL (fLst (fCons (fC (.int 15)) (fCons (fC (.int 16)) (fCons (fC (.int 17)) fNil)))))) (tName 7) (sSeq (sSet 8 (fTup (fCons (fTup (fCons (fC (.str "a")) (fCons (fU gTupRg (fVx 7)) (fCons (fTup (fCons (fB gSubI (fVx 7) (fC (.int 1))) fNil)) fNil)))) fNil))) (sSeq (sApp 6 (fTup (fCons (fV 1) (fCons (fV 7) (fCons (fV 8) (fCons (fB gMul (fTup (fCons (fC (.int 9)) fNil)) (fVx 7)) (fCons (fB gMul (fTup (fCons (fC (.int 0)) fNil)) (fVx 7)) fNil))))))) (sSeq (sApp 6 (fTup (fCons (fV 1) (fCons (fV 7) (fCons (fV 8) (fCons (fB gAdd (fTup (fCons (fC (.int 10)) fNil)) (fB gMul (fTup (fCons (fC (.int 0)) fNil)) (fB gSubI (fVx 7) (fC (.int 1))))) (fCons (fB gMul (fTup (fCons (fC (.int 0)) fNil)) (fVx 7)) fNil))))))) (sApp 6 (fTup (fCons (fV 1) (fCons (fV 7) (fCons (fV 8) (fCons (fB gMul (fTup (fCons (fC (.int 0)) fNil)) (fVx 7)) (fCons (fB gAdd (fB gMul (fTup (fCons (fC (.int 0)) fNil)) (fB gSubI (fVx 7) (fC (.int 1)))) (fTup (fCons (fC (.int 10)) fNil))) fNil))))))))))) (sSeq (sFor (iL (fL (fLst (fCons (fB gMulS (fC (.str "a")) (fC (.int 12))) (fCons (fB gMulS (fC (.str "a")) (fC (.int 13))) (fCons (fC (.str "")) (fCons (fC (.str "z_9")) (fCons (fC (.str "9z")) (fCons (fC (.str "aB")) (fCons (fC (.str "a b")) (fCons (fC (.str "_")) fNil))))))))))) (tName 9) (sApp 6 (fTup (fCons (fV 1) (fCons (fC (.int 1)) (fCons (fTup (fCons (fTup (fCons (fV 9) (fCons (fTup (fCons (fC (.int 0)) fNil)) (fCons (fTup fNil) fNil)))) fNil)) (fCons (fTup (fCons (fC (.int 0)) fNil)) (fCons (fTup (fCons (fC (.int 9)) fNil)) fNil)))))))) (sRet (fL (fBN gCatL (fVx 6) (fL (fLst (fCons (fTup (fCons (fV 1) (fCons (fC (.int 0)) (fCons (fV 3) (fCons (fTup fNil) (fCons (fTup fNil) fNil)))))) (fCons (fTup (fCons (fV 1) (fCons (fC (.bool true)) (fCons (fTup (fCons (fTup (fCons (fC (.str "a")) (fCons (fTup (fCons (fC (.int 0)) fNil)) (fCons (fTup fNil) fNil)))) fNil)) (fCons (fTup (fCons (fC (.int 1)) fNil)) (fCons (fTup (fCons (fC (.int 1)) fNil)) fNil)))))) (fCons (fTup (fCons (fV 1) (fCons (fV 2) (fCons (fTup fNil) (fCons (fV 4) (fCons (fV 5) fNil)))))) fNil))))))))))))
def m__law_edges : MF := mOf 10 g__law_edges
theorem ok__law_edges {P : Program} {w : World} {K : PySem.W.Frag} {mg : Str → Option Value} {base : Heap} (G : Gs K mg) : Fn P w K mg base 1 "_law_edges" ["sheet"] (SPd K 1 m__law_edges) := by
  obtain ⟨fd, F⟩ := G.d__law_edges
  exact fn_mk F G.g__law_edges sc__law_edges (FunD.bindsN F fun _ _ _ _ _ _ us hl => match us, hl with | [_], _ => rfl) (kbind_of F fun _ _ _ _ _ _ us hl => match us, hl with | [_], _ => rfl) (fun vs H Q ⟨_, _, _, _, _, _, h, _⟩ => h) (fun cdv A outer s H vs Q hr hg h => have hu := hr.units; ⟨_, (pss_cons (ps_asg (pv 0) (pg_tup rfl (pgs_cons (pg_name (i := 1) sc__law_edges.nd rfl (by first | exact Or.inl rfl | exact Or.inr rfl)) (pgs_cons (pg_name (i := 2) sc__law_edges.nd rfl (by first | exact Or.inl rfl | exact Or.inr rfl)) (pgs_cons (pg_name (i := 3) sc__law_edges.nd rfl (by first | exact Or.inl rfl | exact Or.inr rfl)) (pgs_cons (pg_name (i := 4) sc__law_edges.nd rfl (by first | exact Or.inl rfl | exact Or.inr rfl)) (pgs_cons (pg_name (i := 5) sc__law_edges.nd rfl (by first | exact Or.inl rfl | exact Or.inr rfl)) pgs_nil))))))) (pss_cons (ps_set (i := 6) sc__law_edges.nd rfl (by first | exact Or.inl rfl | exact Or.inr rfl) (pe_lst (pa_cons (pe_tup (pa_cons (pv 1) (pa_cons (pv 2) (pa_cons (pe_op op_mulAll (pv 3) pe_int) (pa_cons (pv 4) (pa_cons (pv 5) pa_nil)))))) (pa_cons (pe_tup (pa_cons (pv 1) (pa_cons (pv 2) (pa_cons (pe_op op_mulAll (pe_slice (SlR.or sl_tupA sl_str) (pv 3) po_none (po_some pe_int)) pe_int) (pa_cons (pv 4) (pa_cons (pv 5) pa_nil)))))) (pa_cons (pe_tup (pa_cons (pv 1) (pa_cons (pv 2) (pa_cons (pe_op op_mulAll (pe_slice (SlR.or sl_tupA sl_str) (pv 3) po_none (po_some pe_int)) pe_int) (pa_cons (pv 4) (pa_cons (pv 5) pa_nil)))))) pa_nil))))) (pss_cons (ps_for PassesOwn.never rfl (pi_list (pe_lst (pa_cons pe_int (pa_cons pe_int (pa_cons pe_int pa_nil))))) (pg_name (i := 7) sc__law_edges.nd rfl (by first | exact Or.inl rfl | exact Or.inr rfl)) (pss_cons (ps_set (i := 8) sc__law_edges.nd rfl (by first | exact Or.inl rfl | exact Or.inr rfl) (pe_tup (pa_cons (pe_tup (pa_cons pe_str (pa_cons (pe_tupRg rfl rfl G.b_tuple (prg_1 rfl G.b_range (pv 7))) (pa_cons (pe_tup (pa_cons (pe_op op_subAll (pv 7) pe_int) pa_nil)) pa_nil)))) pa_nil))) (pss_cons (ps_expr (pe_bm PySem.F.plainAttrs_list PySem.F.slot_list_append PySem.F.type_list_append mt_append (pv 6) (pa_cons (pe_tup (pa_cons (pv 1) (pa_cons (pv 7) (pa_cons (pv 8) (pa_cons (pe_op op_mulAll (pe_tup (pa_cons pe_int pa_nil)) (pv 7)) (pa_cons (pe_op op_mulAll (pe_tup (pa_cons pe_int pa_nil)) (pv 7)) pa_nil)))))) pa_nil))) (pss_cons (ps_expr (pe_bm PySem.F.plainAttrs_list PySem.F.slot_list_append PySem.F.type_list_append mt_append (pv 6) (pa_cons (pe_tup (pa_cons (pv 1) (pa_cons (pv 7) (pa_cons (pv 8) (pa_cons (pe_op op_addAll (pe_tup (pa_cons pe_int pa_nil)) (pe_op op_mulAll (pe_tup (pa_cons pe_int pa_nil)) (pe_op op_subAll (pv 7) pe_int))) (pa_cons (pe_op op_mulAll (pe_tup (pa_cons pe_int pa_nil)) (pv 7)) pa_nil)))))) pa_nil))) (pss_one (ps_expr (pe_bm PySem.F.plainAttrs_list PySem.F.slot_list_append PySem.F.type_list_append mt_append (pv 6) (pa_cons (pe_tup (pa_cons (pv 1) (pa_cons (pv 7) (pa_cons (pv 8) (pa_cons (pe_op op_mulAll (pe_tup (pa_cons pe_int pa_nil)) (pv 7)) (pa_cons (pe_op op_addAll (pe_op op_mulAll (pe_tup (pa_cons pe_int pa_nil)) (pe_op op_subAll (pv 7) pe_int)) (pe_tup (pa_cons pe_int pa_nil))) pa_nil)))))) pa_nil)))))))) (pss_cons (ps_for PassesOwn.never rfl (pi_list (pe_lst (pa_cons (pe_op op_repS pe_str pe_int) (pa_cons (pe_op op_repS pe_str pe_int) (pa_cons pe_str (pa_cons pe_str (pa_cons pe_str (pa_cons pe_str (pa_cons pe_str (pa_cons pe_str pa_nil)))))))))) (pg_name (i := 9) sc__law_edges.nd rfl (by first | exact Or.inl rfl | exact Or.inr rfl)) (pss_one (ps_expr (pe_bm PySem.F.plainAttrs_list PySem.F.slot_list_append PySem.F.type_list_append mt_append (pv 6) (pa_cons (pe_tup (pa_cons (pv 1) (pa_cons pe_int (pa_cons (pe_tup (pa_cons (pe_tup (pa_cons (pv 9) (pa_cons (pe_tup (pa_cons pe_int pa_nil)) (pa_cons (pe_tup pa_nil) pa_nil)))) pa_nil)) (pa_cons (pe_tup (pa_cons pe_int pa_nil)) (pa_cons (pe_tup (pa_cons pe_int pa_nil)) pa_nil)))))) pa_nil))))) (pss_one (ps_ret (pe_op op_catL (pv 6) (pe_lst (pa_cons (pe_tup (pa_cons (pv 1) (pa_cons pe_int (pa_cons (pv 3) (pa_cons (pe_tup pa_nil) (pa_cons (pe_tup pa_nil) pa_nil)))))) (pa_cons (pe_tup (pa_cons (pv 1) (pa_cons pe_bl (pa_cons (pe_tup (pa_cons (pe_tup (pa_cons pe_str (pa_cons (pe_tup (pa_cons pe_int pa_nil)) (pa_cons (pe_tup pa_nil) pa_nil)))) pa_nil)) (pa_cons (pe_tup (pa_cons pe_int pa_nil)) (pa_cons (pe_tup (pa_cons pe_int pa_nil)) pa_nil)))))) (pa_cons (pe_tup (pa_cons (pv 1) (pa_cons (pv 2) (pa_cons (pe_tup pa_nil) (pa_cons (pv 4) (pa_cons (pv 5) pa_nil)))))) pa_nil))))))))))), body_ok (g := g__law_edges) (evs_seq (evs_unp (vs := [1, 2, 3, 4, 5]) (ev_var 0) (evg_tup (evgs_cons (evg_name (i := 1) (by decide)) (evgs_cons (evg_name (i := 2) (by decide)) (evgs_cons (evg_name (i := 3) (by decide)) (evgs_cons (evg_name (i := 4) (by decide)) (evgs_cons (evg_name (i := 5) (by decide)) evgs_nil))))))) (evs_seq (evs_setM (i := 6) (ev_lst (eva_cons (ev_tup (eva_cons (ev_var 1) (eva_cons (ev_var 2) (eva_cons (ev_op sim_mul (ev_varx 3) (EvE.x (ev_int _))) (eva_cons (ev_var 4) (eva_cons (ev_var 5) eva_nil)))))) (eva_cons (ev_tup (eva_cons (ev_var 1) (eva_cons (ev_var 2) (eva_cons (ev_op sim_mul (EvE.x (ev_slA (ev_varx 3) evo_none (evo_some (EvE.x (ev_int _))))) (EvE.x (ev_int _))) (eva_cons (ev_var 4) (eva_cons (ev_var 5) eva_nil)))))) (eva_cons (ev_tup (eva_cons (ev_var 1) (eva_cons (ev_var 2) (eva_cons (ev_op sim_mul (EvE.x (ev_slA (ev_varx 3) evo_none (evo_some (EvE.x (ev_int _))))) (EvE.x (ev_int _))) (eva_cons (ev_var 4) (eva_cons (ev_var 5) eva_nil)))))) eva_nil))))) (evs_seq (evs_for (vs := [7]) (evi_list (EvN.e (ev_lst (eva_cons (ev_int _) (eva_cons (ev_int _) (eva_cons (ev_int _) eva_nil)))))) (evg_name (i := 7) (by decide)) (evs_seq (evs_set (i := 8) (ev_tup (eva_cons (ev_tup (eva_cons (ev_str _) (eva_cons (ev_tupRg (ev_varx 7)) (eva_cons (ev_tup (eva_cons (ev_op sim_sub (ev_varx 7) (EvE.x (ev_int _))) eva_nil)) eva_nil)))) eva_nil))) (evs_seq (evs_app (i := 6) (ev_tup (eva_cons (ev_var 1) (eva_cons (ev_var 7) (eva_cons (ev_var 8) (eva_cons (ev_op sim_mul (EvE.x (ev_tup (eva_cons (ev_int _) eva_nil))) (ev_varx 7)) (eva_cons (ev_op sim_mul (EvE.x (ev_tup (eva_cons (ev_int _) eva_nil))) (ev_varx 7)) eva_nil))))))) (evs_seq (evs_app (i := 6) (ev_tup (eva_cons (ev_var 1) (eva_cons (ev_var 7) (eva_cons (ev_var 8) (eva_cons (ev_op sim_add (EvE.x (ev_tup (eva_cons (ev_int _) eva_nil))) (EvE.x (ev_op sim_mul (EvE.x (ev_tup (eva_cons (ev_int _) eva_nil))) (EvE.x (ev_op sim_sub (ev_varx 7) (EvE.x (ev_int _))))))) (eva_cons (ev_op sim_mul (EvE.x (ev_tup (eva_cons (ev_int _) eva_nil))) (ev_varx 7)) eva_nil))))))) (evs_app (i := 6) (ev_tup (eva_cons (ev_var 1) (eva_cons (ev_var 7) (eva_cons (ev_var 8) (eva_cons (ev_op sim_mul (EvE.x (ev_tup (eva_cons (ev_int _) eva_nil))) (ev_varx 7)) (eva_cons (ev_op sim_add (EvE.x (ev_op sim_mul (EvE.x (ev_tup (eva_cons (ev_int _) eva_nil))) (EvE.x (ev_op sim_sub (ev_varx 7) (EvE.x (ev_int _)))))) (EvE.x (ev_tup (eva_cons (ev_int _) eva_nil)))) eva_nil))))))))))) (evs_seq (evs_for (vs := [9]) (evi_list (EvN.e (ev_lst (eva_cons (ev_op sim_mulS (EvE.x (ev_str _)) (EvE.x (ev_int _))) (eva_cons (ev_op sim_mulS (EvE.x (ev_str _)) (EvE.x (ev_int _))) (eva_cons (ev_str _) (eva_cons (ev_str _) (eva_cons (ev_str _) (eva_cons (ev_str _) (eva_cons (ev_str _) (eva_cons (ev_str _) eva_nil))))))))))) (evg_name (i := 9) (by decide)) (evs_app (i := 6) (ev_tup (eva_cons (ev_var 1) (eva_cons (ev_int _) (eva_cons (ev_tup (eva_cons (ev_tup (eva_cons (ev_var 9) (eva_cons (ev_tup (eva_cons (ev_int _) eva_nil)) (eva_cons (ev_tup eva_nil) eva_nil)))) eva_nil)) (eva_cons (ev_tup (eva_cons (ev_int _) eva_nil)) (eva_cons (ev_tup (eva_cons (ev_int _) eva_nil)) eva_nil)))))))) (evs_ret (EvN.e (ev_opN sim_catL (ev_varx 6) (EvN.x (ev_lst (eva_cons (ev_tup (eva_cons (ev_var 1) (eva_cons (ev_int _) (eva_cons (ev_var 3) (eva_cons (ev_tup eva_nil) (eva_cons (ev_tup eva_nil) eva_nil)))))) (eva_cons (ev_tup (eva_cons (ev_var 1) (eva_cons (ev_bl _) (eva_cons (ev_tup (eva_cons (ev_tup (eva_cons (ev_str _) (eva_cons (ev_tup (eva_cons (ev_int _) eva_nil)) (eva_cons (ev_tup eva_nil) eva_nil)))) eva_nil)) (eva_cons (ev_tup (eva_cons (ev_int _) eva_nil)) (eva_cons (ev_tup (eva_cons (ev_int _) eva_nil)) eva_nil)))))) (eva_cons (ev_tup (eva_cons (ev_var 1) (eva_cons (ev_var 2) (eva_cons (ev_tup eva_nil) (eva_cons (ev_var 4) (eva_cons (ev_var 5) eva_nil)))))) eva_nil)))))))))))) h⟩)
/-! #### _law_bent -/
abbrev s__law_bent : Stmt := top 33
abbrev N__law_bent : List Str := ["pot", "value", "at", "way"]
theorem sc__law_bent : FnScope N__law_bent ["pot", "value"] (defScope s__law_bent) := ⟨rfl, rfl, rfl, by decide +kernel, rfl, by decide +kernel, by decide +kernel⟩
def g__law_bent (self : MF) : MS := (sSeq (sIf (fAndT (fTv (fIsi "tuple" (fVx 1))) (fAndT (fTv (fB gGt (fU gLen (fVx 1)) (fC (.int 0)))) (fTv (fB gGt (fCl 2 m__law_draw (aP 0 (aD (fC (.int 8)) aNil))) (fC (.int 0)))))) (sSeq (sPar 2 3 (aD (fCl 2 m__law_draw (aP 0 (aD (fU gLen (fVx 1)) aNil))) (aD (fCl 2 m__law_draw (aP 0 (aD (fC (.int 11)) aNil))) aNil))) (sSeq (sIf (fTv (fB (gEq false) (fVx 3) (fC (.int 0)))) (sRet (fB gAdd (fSlA (fVx 1) oNone (oSome (fVx 2))) (fSlA (fVx 1) (oSome (fB gAdd (fVx 2) (fC (.int 1)))) oNone))) sNil) (sSeq (sIf (fTv (fB (gEq false) (fVx 3) (fC (.int 1)))) (sRet (fB gAdd (fSlA (fVx 1) oNone (oSome (fB gAdd (fVx 2) (fC (.int 1))))) (fSlA (fVx 1) (oSome (fVx 2)) oNone))) sNil) (sSeq (sIf (fTv (fB (gEq false) (fVx 3) (fC (.int 2)))) (sRet (fL (fUN gList (fVx 1)))) sNil) (sSeq (sIf (fTv (fB (gEq false) (fVx 3) (fC (.int 3)))) (sRet (fRevT (fVx 1))) sNil) (sRet (fB gAdd (fB gAdd (fSlA (fVx 1) oNone (oSome (fVx 2))) (fTup (fCons (fCl 2 self (aP 0 (aD (fB gIx (fVx 1) (fVx 2)) aNil))) fNil))) (fSlA (fVx 1) (oSome (fB gAdd (fVx 2) (fC (.int 1)))) oNone)))))))) sNil) (sSeq (sIf (fTv (fIsi "str" (fVx 1))) (sRet (fCl 2 m__law_pick (aP 0 (aD (fL (fLst (fCons (fC (.str "")) (fCons (fC (.str "A")) (fCons (fC (.str "a b")) (fCons (fC (.str "sheets")) (fCons (fC (.str "sheet")) (fCons (fC (.str "0a")) (fCons (fC (.str "_a")) (fCons (fB gMulS (fC (.str "a")) (fC (.int 12))) (fCons (fB gMulS (fC (.str "a")) (fC (.int 13))) (fCons (fC .none) (fCons (fTup (fCons (fC (.str "a")) fNil)) (fCons (fC (.int 0)) (fCons (fB gAdd (fVx 1) (fC (.str "-"))) fNil))))))))))))))) aNil)))) sNil) (sSeq (sIf (fTv (fIsi "int" (fVx 1))) (sRet (fCl 2 m__law_pick (aP 0 (aD (fL (fLst (fCons (fB gAdd (fVx 1) (fC (.int 1))) (fCons (fB gSubI (fVx 1) (fC (.int 1))) (fCons (fC (.int 9)) (fCons (fC (.int 10)) (fCons (fC (.int 16)) (fCons (fU gNeg (fC (.int 1))) (fCons (fC (.bool true)) (fCons (fC (.bool false)) (fCons (fC .none) (fCons (fC (.str "0")) (fCons (fTup (fCons (fV 1) fNil)) (fCons (fB gPow (fC (.int 10)) (fC (.int 20))) fNil)))))))))))))) aNil)))) sNil) (sRet (fCl 2 m__law_pick (aP 0 (aD (fL (fLst (fCons (fC .none) (fCons (fC (.int 0)) (fCons (fTup fNil) (fCons (fL (fLst fNil)) (fCons (fC (.str "a")) (fCons (fTup (fCons (fC (.int 0)) fNil)) (fCons (fTup (fCons (fC (.int 1)) (fCons (fC (.int 0)) fNil))) (fCons (fTup (fCons (fC (.int 0)) (fCons (fC (.int 0)) fNil))) (fCons fDict0 fNil))))))))))) aNil)))))))
def m__law_bent : Nat → MF
  | 0 => fun _ _ => none
  | n + 1 => mOf 4 (g__law_bent (m__law_bent n))
theorem ok__law_bent {P : Program} {w : World} {K : PySem.W.Frag} {mg : Str → Option Value} {base : Heap} (G : Gs K mg) : ∀ n, Fn P w K mg base (n + 1 + 2) "_law_bent" ["pot", "value"] (SPd K 2 (m__law_bent n))
  | 0 => by
    obtain ⟨fd, F⟩ := G.d__law_bent
    exact (fn_mk (lev := 2) F G.g__law_bent sc__law_bent (FunD.bindsN F fun _ _ _ _ _ _ us hl => match us, hl with | [_, _], _ => rfl) (kbind_of F fun _ _ _ _ _ _ us hl => match us, hl with | [_, _], _ => rfl) (fun vs H Q ⟨_, _, _, _, _, _, h, _⟩ => h) (fun cdv A outer s H vs Q hr hg ⟨_, _, _, _, _, _, _, _, _, h, _⟩ => nomatch h)).mono (by omega)
  | n + 1 => by
    have IH := ok__law_bent (P := P) (w := w) (base := base) G n
    obtain ⟨fd, F⟩ := G.d__law_bent
    exact fn_mk (lev := n + 1 + 2) F G.g__law_bent sc__law_bent (FunD.bindsN F fun _ _ _ _ _ _ us hl => match us, hl with | [_, _], _ => rfl) (kbind_of F fun _ _ _ _ _ _ us hl => match us, hl with | [_, _], _ => rfl) (fun vs H Q ⟨_, _, _, _, _, _, h, _⟩ => h) (fun cdv A outer s H vs Q hr hg h => have hu := hr.units; ⟨_, (pss_cons (ps_if (PW.pt (pw_and (pt_val (pe_callB call_isi rfl G.b_isinstance boot_isinstance (pa_cons (pv 1) (pa_cons (pe_ty rfl G.b_tuple boot_tuple) pa_nil)))) (pw_and (pt_cmpR op_gt (pe_callB call_len rfl G.b_len boot_len (pa_cons (pv 1) pa_nil)) pe_int (nomark _)) (pw_and1 (pt_cmpR op_gt (pe_fn ((ok__law_draw G).mono (by omega)) hr hg rfl (pa_cons (pv 0) (pa_cons pe_int pa_nil))) pe_int (nomark _)))))) (pss_cons (ps_par (i := 2) (j := 3) rfl sc__law_bent.nd rfl rfl (by decide) rfl rfl (pa_cons (pe_fn ((ok__law_draw G).mono (by omega)) hr hg rfl (pa_cons (pv 0) (pa_cons (pe_callB call_len rfl G.b_len boot_len (pa_cons (pv 1) pa_nil)) pa_nil))) (pa_cons (pe_fn ((ok__law_draw G).mono (by omega)) hr hg rfl (pa_cons (pv 0) (pa_cons pe_int pa_nil))) pa_nil)) rfl) (pss_cons (ps_if (pt_cmpR (op_eqY hu) (pv 3) pe_int (nomark _)) (pss_one (ps_ret (pe_op op_addAll (pe_slice (SlR.or sl_tupA sl_str) (pv 1) po_none (po_some (pv 2))) (pe_slice (SlR.or sl_tupA sl_str) (pv 1) (po_some (pe_op op_addAll (pv 2) pe_int)) po_none)))) pss_nil) (pss_cons (ps_if (pt_cmpR (op_eqY hu) (pv 3) pe_int (nomark _)) (pss_one (ps_ret (pe_op op_addAll (pe_slice (SlR.or sl_tupA sl_str) (pv 1) po_none (po_some (pe_op op_addAll (pv 2) pe_int))) (pe_slice (SlR.or sl_tupA sl_str) (pv 1) (po_some (pv 2)) po_none)))) pss_nil) (pss_cons (ps_if (pt_cmpR (op_eqY hu) (pv 3) pe_int (nomark _)) (pss_one (ps_ret (pe_callTy call_list_of rfl G.b_list boot_list (pa_cons (pv 1) pa_nil)))) pss_nil) (pss_cons (ps_if (pt_cmpR (op_eqY hu) (pv 3) pe_int (nomark _)) (pss_one (ps_ret (pe_revT (pv 1)))) pss_nil) (pss_one (ps_ret (pe_op op_addAll (pe_op op_addAll (pe_slice (SlR.or sl_tupA sl_str) (pv 1) po_none (po_some (pv 2))) (pe_tup (pa_cons (pe_fn IH hr hg rfl (pa_cons (pv 0) (pa_cons (pe_ix ix_seq (pv 1) (pv 2) fun _ _ => rfl) pa_nil))) pa_nil))) (pe_slice (SlR.or sl_tupA sl_str) (pv 1) (po_some (pe_op op_addAll (pv 2) pe_int)) po_none))))))))) pss_nil) (pss_cons (ps_if (pt_val (pe_callB call_isi rfl G.b_isinstance boot_isinstance (pa_cons (pv 1) (pa_cons (pe_ty rfl G.b_str boot_str) pa_nil)))) (pss_one (ps_ret (pe_fn ((ok__law_pick G).mono (by omega)) hr hg rfl (pa_cons (pv 0) (pa_cons (pe_lst (pa_cons pe_str (pa_cons pe_str (pa_cons pe_str (pa_cons pe_str (pa_cons pe_str (pa_cons pe_str (pa_cons pe_str (pa_cons (pe_op op_repS pe_str pe_int) (pa_cons (pe_op op_repS pe_str pe_int) (pa_cons pe_non (pa_cons (pe_tup (pa_cons pe_str pa_nil)) (pa_cons pe_int (pa_cons (pe_op op_addAll (pv 1) pe_str) pa_nil)))))))))))))) pa_nil))))) pss_nil) (pss_cons (ps_if (pt_val (pe_callB call_isi rfl G.b_isinstance boot_isinstance (pa_cons (pv 1) (pa_cons (pe_ty rfl G.b_int boot_int) pa_nil)))) (pss_one (ps_ret (pe_fn ((ok__law_pick G).mono (by omega)) hr hg rfl (pa_cons (pv 0) (pa_cons (pe_lst (pa_cons (pe_op op_addAll (pv 1) pe_int) (pa_cons (pe_op op_subAll (pv 1) pe_int) (pa_cons pe_int (pa_cons pe_int (pa_cons pe_int (pa_cons (pe_un un_neg pe_int) (pa_cons pe_bl (pa_cons pe_bl (pa_cons pe_non (pa_cons pe_str (pa_cons (pe_tup (pa_cons (pv 1) pa_nil)) (pa_cons (pe_op op_pow pe_int pe_int) pa_nil))))))))))))) pa_nil))))) pss_nil) (pss_one (ps_ret (pe_fn ((ok__law_pick G).mono (by omega)) hr hg rfl (pa_cons (pv 0) (pa_cons (pe_lst (pa_cons pe_non (pa_cons pe_int (pa_cons (pe_tup pa_nil) (pa_cons (pe_lst pa_nil) (pa_cons pe_str (pa_cons (pe_tup (pa_cons pe_int pa_nil)) (pa_cons (pe_tup (pa_cons pe_int (pa_cons pe_int pa_nil))) (pa_cons (pe_tup (pa_cons pe_int (pa_cons pe_int pa_nil))) (pa_cons pe_dnewK pa_nil)))))))))) pa_nil)))))))), body_ok (g := g__law_bent (m__law_bent n)) (evs_seq (evs_if (evt_and (evt_val (EvE.x (ev_isi (ev_varx 1)))) (evt_and (evt_test (EvE.x (ev_op (sim_cmp _) (EvE.x (ev_c1 sim_len (ev_varx 1))) (EvE.x (ev_int _))))) (evt_test (EvE.x (ev_op (sim_cmp _) (EvE.x (ev_cl (evar_p (i := 0) (evar_d (ev_int _) evar_nil)))) (EvE.x (ev_int _))))))) (evs_seq (evs_par (i := 2) (j := 3) (evar_d (ev_cl (evar_p (i := 0) (evar_d (ev_c1 sim_len (ev_varx 1)) evar_nil))) (evar_d (ev_cl (evar_p (i := 0) (evar_d (ev_int _) evar_nil))) evar_nil))) (evs_seq (evs_if (evt_test (EvE.x (ev_op (sim_eq false) (ev_varx 3) (EvE.x (ev_int _))))) (evs_ret (ev_op sim_add (EvE.x (ev_slA (ev_varx 1) evo_none (evo_some (ev_varx 2)))) (EvE.x (ev_slA (ev_varx 1) (evo_some (EvE.x (ev_op sim_add (ev_varx 2) (EvE.x (ev_int _))))) evo_none)))) evs_nil) (evs_seq (evs_if (evt_test (EvE.x (ev_op (sim_eq false) (ev_varx 3) (EvE.x (ev_int _))))) (evs_ret (ev_op sim_add (EvE.x (ev_slA (ev_varx 1) evo_none (evo_some (EvE.x (ev_op sim_add (ev_varx 2) (EvE.x (ev_int _))))))) (EvE.x (ev_slA (ev_varx 1) (evo_some (ev_varx 2)) evo_none)))) evs_nil) (evs_seq (evs_if (evt_test (EvE.x (ev_op (sim_eq false) (ev_varx 3) (EvE.x (ev_int _))))) (evs_ret (EvN.e (ev_c1N sim_list (ev_varx 1)))) evs_nil) (evs_seq (evs_if (evt_test (EvE.x (ev_op (sim_eq false) (ev_varx 3) (EvE.x (ev_int _))))) (evs_ret (ev_revT (ev_varx 1))) evs_nil) (evs_ret (ev_op sim_add (EvE.x (ev_op sim_add (EvE.x (ev_slA (ev_varx 1) evo_none (evo_some (ev_varx 2)))) (EvE.x (ev_tup (eva_cons (ev_cl (evar_p (i := 0) (evar_d (ev_op sim_ix (ev_varx 1) (ev_varx 2)) evar_nil))) eva_nil))))) (EvE.x (ev_slA (ev_varx 1) (evo_some (EvE.x (ev_op sim_add (ev_varx 2) (EvE.x (ev_int _))))) evo_none))))))))) evs_nil) (evs_seq (evs_if (evt_val (EvE.x (ev_isi (ev_varx 1)))) (evs_ret (ev_cl (evar_p (i := 0) (evar_d (EvN.e (ev_lst (eva_cons (ev_str _) (eva_cons (ev_str _) (eva_cons (ev_str _) (eva_cons (ev_str _) (eva_cons (ev_str _) (eva_cons (ev_str _) (eva_cons (ev_str _) (eva_cons (ev_op sim_mulS (EvE.x (ev_str _)) (EvE.x (ev_int _))) (eva_cons (ev_op sim_mulS (EvE.x (ev_str _)) (EvE.x (ev_int _))) (eva_cons ev_non (eva_cons (ev_tup (eva_cons (ev_str _) eva_nil)) (eva_cons (ev_int _) (eva_cons (ev_op sim_add (ev_varx 1) (EvE.x (ev_str _))) eva_nil))))))))))))))) evar_nil)))) evs_nil) (evs_seq (evs_if (evt_val (EvE.x (ev_isi (ev_varx 1)))) (evs_ret (ev_cl (evar_p (i := 0) (evar_d (EvN.e (ev_lst (eva_cons (ev_op sim_add (ev_varx 1) (EvE.x (ev_int _))) (eva_cons (ev_op sim_sub (ev_varx 1) (EvE.x (ev_int _))) (eva_cons (ev_int _) (eva_cons (ev_int _) (eva_cons (ev_int _) (eva_cons (ev_un sim_neg (EvE.x (ev_int _))) (eva_cons (ev_bl _) (eva_cons (ev_bl _) (eva_cons ev_non (eva_cons (ev_str _) (eva_cons (ev_tup (eva_cons (ev_var 1) eva_nil)) (eva_cons (ev_op sim_pow (EvE.x (ev_int _)) (EvE.x (ev_int _))) eva_nil)))))))))))))) evar_nil)))) evs_nil) (evs_ret (ev_cl (evar_p (i := 0) (evar_d (EvN.e (ev_lst (eva_cons ev_non (eva_cons (ev_int _) (eva_cons (ev_tup eva_nil) (eva_cons (EvN.e (ev_lst eva_nil)) (eva_cons (ev_str _) (eva_cons (ev_tup (eva_cons (ev_int _) eva_nil)) (eva_cons (ev_tup (eva_cons (ev_int _) (eva_cons (ev_int _) eva_nil))) (eva_cons (ev_tup (eva_cons (ev_int _) (eva_cons (ev_int _) eva_nil))) (eva_cons ev_dict0 eva_nil))))))))))) evar_nil))))))) h⟩)
/-! #### is_integer -/
abbrev s_is_integer : Stmt := top 1
abbrev N_is_integer : List Str := ["value"]
theorem sc_is_integer : FnScope N_is_integer ["value"] (defScope s_is_integer) := ⟨rfl, rfl, rfl, by decide +kernel, rfl, by decide +kernel, by decide +kernel⟩
def g_is_integer : MS := (sRet (fAndV (fIsi "int" (fVx 0)) (fNotV (fIsi "bool" (fVx 0)))))
def m_is_integer : MF := mOf 1 g_is_integer
theorem ok_is_integer {P : Program} {w : World} {K : PySem.W.Frag} {mg : Str → Option Value} {base : Heap} (G : Gs K mg) : Fn P w K mg base 1 "is_integer" ["value"] (SPd K 1 m_is_integer) := by
  obtain ⟨fd, F⟩ := G.d_is_integer
  exact fn_mk F G.g_is_integer sc_is_integer (FunD.bindsN F fun _ _ _ _ _ _ us hl => match us, hl with | [_], _ => rfl) (kbind_of F fun _ _ _ _ _ _ us hl => match us, hl with | [_], _ => rfl) (fun vs H Q ⟨_, _, _, _, _, _, h, _⟩ => h) (fun cdv A outer s H vs Q hr hg h => have hu := hr.units; ⟨_, (pss_one (ps_ret (pe_and (pe_callB call_isi rfl G.b_isinstance boot_isinstance (pa_cons (pv 0) (pa_cons (pe_ty rfl G.b_int boot_int) pa_nil))) (pe_one (pe_not (pe_callB call_isi rfl G.b_isinstance boot_isinstance (pa_cons (pv 0) (pa_cons (pe_ty rfl G.b_bool boot_bool) pa_nil)))))))), body_ok (g := g_is_integer) (evs_ret (ev_andV (EvE.x (ev_isi (ev_varx 0))) (ev_notV (EvE.x (ev_isi (ev_varx 0)))))) h⟩)
/-! #### is_within -/
abbrev s_is_within : Stmt := top 2
abbrev N_is_within : List Str := ["value", "least", "most"]
theorem sc_is_within : FnScope N_is_within ["value", "least", "most"] (defScope s_is_within) := ⟨rfl, rfl, rfl, by decide +kernel, rfl, by decide +kernel, by decide +kernel⟩
def g_is_within : MS := (sRet (fAndV (fCl 1 m_is_integer (aD (fV 0) aNil)) (fCh gLe gLe (fVx 1) (fVx 0) (fVx 2))))
def m_is_within : MF := mOf 3 g_is_within
theorem ok_is_within {P : Program} {w : World} {K : PySem.W.Frag} {mg : Str → Option Value} {base : Heap} (G : Gs K mg) : Fn P w K mg base 2 "is_within" ["value", "least", "most"] (SPd K 3 m_is_within) := by
  obtain ⟨fd, F⟩ := G.d_is_within
  exact fn_mk F G.g_is_within sc_is_within (FunD.bindsN F fun _ _ _ _ _ _ us hl => match us, hl with | [_, _, _], _ => rfl) (kbind_of F fun _ _ _ _ _ _ us hl => match us, hl with | [_, _, _], _ => rfl) (fun vs H Q ⟨_, _, _, _, _, _, h, _⟩ => h) (fun cdv A outer s H vs Q hr hg h => have hu := hr.units; ⟨_, (pss_one (ps_ret (pe_and (pe_fn ((ok_is_integer G).mono (by decide)) hr hg rfl (pa_cons (pv 0) pa_nil)) (pe_one (pe_chain op_le op_le (pv 1) (pv 0) (pv 2)))))), body_ok (g := g_is_within) (evs_ret (ev_andV (EvE.x (ev_cl (evar_d (ev_var 0) evar_nil))) (ev_chain (sim_cmp _) (sim_cmp _) (ev_varx 1) (ev_varx 0) (ev_varx 2)))) h⟩)
/-! #### is_tuple -/
abbrev s_is_tuple : Stmt := top 3
abbrev N_is_tuple : List Str := ["value", "many"]
theorem sc_is_tuple : FnScope N_is_tuple ["value", "many"] (defScope s_is_tuple) := ⟨rfl, rfl, rfl, by decide +kernel, rfl, by decide +kernel, by decide +kernel⟩
def g_is_tuple : MS := (sRet (fAndV (fIsi "tuple" (fVx 0)) (fB (gEq false) (fU gLen (fVx 0)) (fVx 1))))
def m_is_tuple : MF := mOf 2 g_is_tuple
theorem ok_is_tuple {P : Program} {w : World} {K : PySem.W.Frag} {mg : Str → Option Value} {base : Heap} (G : Gs K mg) : Fn P w K mg base 1 "is_tuple" ["value", "many"] (SPd K 2 m_is_tuple) := by
  obtain ⟨fd, F⟩ := G.d_is_tuple
  exact fn_mk F G.g_is_tuple sc_is_tuple (FunD.bindsN F fun _ _ _ _ _ _ us hl => match us, hl with | [_, _], _ => rfl) (kbind_of F fun _ _ _ _ _ _ us hl => match us, hl with | [_, _], _ => rfl) (fun vs H Q ⟨_, _, _, _, _, _, h, _⟩ => h) (fun cdv A outer s H vs Q hr hg h => have hu := hr.units; ⟨_, (pss_one (ps_ret (pe_and (pe_callB call_isi rfl G.b_isinstance boot_isinstance (pa_cons (pv 0) (pa_cons (pe_ty rfl G.b_tuple boot_tuple) pa_nil))) (pe_one (pe_cmpR (op_eqY hu) (pe_callB call_len rfl G.b_len boot_len (pa_cons (pv 0) pa_nil)) (pv 1) (nomark _)))))), body_ok (g := g_is_tuple) (evs_ret (ev_andV (EvE.x (ev_isi (ev_varx 0))) (ev_op (sim_eq false) (EvE.x (ev_c1 sim_len (ev_varx 0))) (ev_varx 1)))) h⟩)
/-! #### are_rising -/
abbrev s_are_rising : Stmt := top 4
abbrev N_are_rising : List Str := ["values", "near", "far"]
theorem sc_are_rising : FnScope N_are_rising ["values"] (defScope s_are_rising) := ⟨rfl, rfl, rfl, by decide +kernel, rfl, by decide +kernel, by decide +kernel⟩
def g_are_rising : MS := (sRet (fU gAll (fL (fLc (iZ (fV 0) (fSlA (fVx 0) (oSome (fC (.int 1))) oNone)) [1, 2] (tTupG (tsCons (tName 1) (tsCons (tName 2) tsNil)) 2) bYes (fB gLt (fVx 1) (fVx 2))))))
def m_are_rising : MF := mOf 3 g_are_rising
theorem ok_are_rising {P : Program} {w : World} {K : PySem.W.Frag} {mg : Str → Option Value} {base : Heap} (G : Gs K mg) : Fn P w K mg base 1 "are_rising" ["values"] (SPd K 1 m_are_rising) := by
  obtain ⟨fd, F⟩ := G.d_are_rising
  exact fn_mk F G.g_are_rising sc_are_rising (FunD.bindsN F fun _ _ _ _ _ _ us hl => match us, hl with | [_], _ => rfl) (kbind_of F fun _ _ _ _ _ _ us hl => match us, hl with | [_], _ => rfl) (fun vs H Q ⟨_, _, _, _, _, _, h, _⟩ => h) (fun cdv A outer s H vs Q hr hg h => have hu := hr.units; ⟨_, (pss_one (ps_ret (pe_callB (cr_all rfl) rfl G.b_all boot_all (pa_cons (pe_lc (own := [("near", 1), ("far", 2)]) rfl sc_are_rising.nd (RZ.pi_zipA rfl G.b_zip (pa_cons (pv 0) (pa_cons (pe_slice (SlR.or sl_tupA sl_str) (pv 0) (po_some pe_int) po_none) pa_nil))) (show BlkOk N_are_rising (defScope s_are_rising) _ _ from blkOk_by (by decide +kernel)) (fun _ _ _ _ _ => (pg_tup rfl (pgs_cons (pg_name (i := 1) sc_are_rising.nd rfl (by first | exact Or.inl rfl | exact Or.inr rfl)) (pgs_cons (pg_name (i := 2) sc_are_rising.nd rfl (by first | exact Or.inl rfl | exact Or.inr rfl)) pgs_nil)))) (fun _ _ _ _ _ => pts_nil) (fun _ _ _ _ _ => (pe_cmpR op_lt (pv 1) (pv 2) (nomark _)))) pa_nil)))), body_ok (g := g_are_rising) (evs_ret (ev_c1 sim_all (EvN.x (ev_lc (own := [1, 2]) (evi_zip (ev_var 0) (ev_slA (ev_varx 0) (evo_some (EvE.x (ev_int _))) evo_none)) (evg_tup (evgs_cons (evg_name (i := 1) (by decide)) (evgs_cons (evg_name (i := 2) (by decide)) evgs_nil))) evt_yes (ev_op (sim_cmp _) (ev_varx 1) (ev_varx 2)))))) h⟩)
/-! #### are_places -/
abbrev s_are_places : Stmt := top 13
abbrev N_are_places : List Str := ["value", "places", "one"]
theorem sc_are_places : FnScope N_are_places ["value", "places"] (defScope s_are_places) := ⟨rfl, rfl, rfl, by decide +kernel, rfl, by decide +kernel, by decide +kernel⟩
def g_are_places : MS := (sRet (fAndV (fIsi "tuple" (fVx 0)) (fAndV (fU gAll (fL (fLc (iT (fV 0)) [2] (tName 2) bYes (fCl 3 m_is_within (aD (fV 2) (aD (fC (.int 0)) (aD (fB gSubI (fVx 1) (fC (.int 1))) aNil))))))) (fCl 1 m_are_rising (aD (fV 0) aNil)))))
def m_are_places : MF := mOf 3 g_are_places
theorem ok_are_places {P : Program} {w : World} {K : PySem.W.Frag} {mg : Str → Option Value} {base : Heap} (G : Gs K mg) : Fn P w K mg base 3 "are_places" ["value", "places"] (SPd K 2 m_are_places) := by
  obtain ⟨fd, F⟩ := G.d_are_places
  exact fn_mk F G.g_are_places sc_are_places (FunD.bindsN F fun _ _ _ _ _ _ us hl => match us, hl with | [_, _], _ => rfl) (kbind_of F fun _ _ _ _ _ _ us hl => match us, hl with | [_, _], _ => rfl) (fun vs H Q ⟨_, _, _, _, _, _, h, _⟩ => h) (fun cdv A outer s H vs Q hr hg h => have hu := hr.units; ⟨_, (pss_one (ps_ret (pe_and (pe_callB call_isi rfl G.b_isinstance boot_isinstance (pa_cons (pv 0) (pa_cons (pe_ty rfl G.b_tuple boot_tuple) pa_nil))) (pe_and (pe_callB (cr_all rfl) rfl G.b_all boot_all (pa_cons (pe_lc (own := [("one", 2)]) rfl sc_are_places.nd (pi_tup (pv 0)) (show BlkOk N_are_places (defScope s_are_places) _ _ from blkOk_by (by decide +kernel)) (fun _ _ _ _ _ => (pg_name (i := 2) sc_are_places.nd rfl (by first | exact Or.inl rfl | exact Or.inr rfl))) (fun _ _ _ _ _ => pts_nil) (fun _ _ _ _ _ => (pe_fn ((ok_is_within G).mono (by decide)) hr hg rfl (pa_cons (pv 2) (pa_cons pe_int (pa_cons (pe_op op_subAll (pv 1) pe_int) pa_nil)))))) pa_nil)) (pe_one (pe_fn ((ok_are_rising G).mono (by decide)) hr hg rfl (pa_cons (pv 0) pa_nil))))))), body_ok (g := g_are_places) (evs_ret (ev_andV (EvE.x (ev_isi (ev_varx 0))) (ev_andV (EvE.x (ev_c1 sim_all (EvN.x (ev_lc (own := [2]) (evi_tup (ev_var 0)) (evg_name (i := 2) (by decide)) evt_yes (ev_cl (evar_d (ev_var 2) (evar_d (ev_int _) (evar_d (ev_op sim_sub (ev_varx 1) (EvE.x (ev_int _))) evar_nil)))))))) (ev_cl (evar_d (ev_var 0) evar_nil))))) h⟩)
/-! #### is_name -/
abbrev s_is_name : Stmt := top 12
abbrev N_is_name : List Str := ["value", "sign"]
theorem sc_is_name : FnScope N_is_name ["value"] (defScope s_is_name) := ⟨rfl, rfl, rfl, by decide +kernel, rfl, by decide +kernel, by decide +kernel⟩
def g_is_name : MS := (sSeq (sIf (fOrT (fNotT (fTv (fIsi "str" (fVx 0)))) (fOrT (fNotT (fTv (fCh gLe gLe (fC (.int 1)) (fU gLen (fVx 0)) (fC (.int 12))))) (fTv (fB (gIn true) (fB gIx (fVx 0) (fC (.int 0))) (fC (.str "abcdefghijklmnopqrstuvwxyz")))))) (sRet (fC (.bool false))) sNil) (sRet (fU gAll (fL (fLc (iS (fVx 0)) [1] (tName 1) bYes (fB (gIn false) (fVx 1) (fC (.str "abcdefghijklmnopqrstuvwxyz0123456789_"))))))))
def m_is_name : MF := mOf 2 g_is_name
theorem ok_is_name {P : Program} {w : World} {K : PySem.W.Frag} {mg : Str → Option Value} {base : Heap} (G : Gs K mg) : Fn P w K mg base 1 "is_name" ["value"] (SPd K 1 m_is_name) := by
  obtain ⟨fd, F⟩ := G.d_is_name
  exact fn_mk F G.g_is_name sc_is_name (FunD.bindsN F fun _ _ _ _ _ _ us hl => match us, hl with | [_], _ => rfl) (kbind_of F fun _ _ _ _ _ _ us hl => match us, hl with | [_], _ => rfl) (fun vs H Q ⟨_, _, _, _, _, _, h, _⟩ => h) (fun cdv A outer s H vs Q hr hg h => have hu := hr.units; ⟨_, (pss_cons (ps_if (PW.pt (pw_or (pt_not (pt_val (pe_callB call_isi rfl G.b_isinstance boot_isinstance (pa_cons (pv 0) (pa_cons (pe_ty rfl G.b_str boot_str) pa_nil))))) (pw_or (pt_not (pt_chain op_le op_le pe_int (pe_callB call_len rfl G.b_len boot_len (pa_cons (pv 0) pa_nil)) (pe_cint rfl G.c_MOST_SIGNS))) (pw_or1 (pt_cmpR op_notInAll (pe_ix ix_seq (pv 0) pe_int fun _ _ => rfl) (pe_cstr rfl G.c_LETTERS) (by rfl)))))) (pss_one (ps_ret pe_bl)) pss_nil) (pss_one (ps_ret (pe_callB (cr_all rfl) rfl G.b_all boot_all (pa_cons (pe_lc (own := [("sign", 1)]) rfl sc_is_name.nd (pi_str (pv 0)) (show BlkOk N_is_name (defScope s_is_name) _ _ from blkOk_by (by decide +kernel)) (fun _ _ _ _ _ => (pg_name (i := 1) sc_is_name.nd rfl (by first | exact Or.inl rfl | exact Or.inr rfl))) (fun _ _ _ _ _ => pts_nil) (fun _ _ _ _ _ => (pe_cmpR op_inAll (pv 1) (pe_cstr rfl G.c_SIGNS) (by rfl)))) pa_nil))))), body_ok (g := g_is_name) (evs_seq (evs_if (evt_or (evt_not (evt_val (EvE.x (ev_isi (ev_varx 0))))) (evt_or (evt_not (evt_test (EvE.x (ev_chain (sim_cmp _) (sim_cmp _) (EvE.x (ev_int _)) (EvE.x (ev_c1 sim_len (ev_varx 0))) (EvE.x (ev_int _)))))) (evt_test (EvE.x (ev_op sim_notIn (EvE.x (ev_op sim_ix (ev_varx 0) (EvE.x (ev_int _)))) (EvE.x (ev_str _))))))) (evs_ret (ev_bl _)) evs_nil) (evs_ret (ev_c1 sim_all (EvN.x (ev_lc (own := [1]) (evi_str (ev_varx 0)) (evg_name (i := 1) (by decide)) evt_yes (ev_op sim_in (ev_varx 1) (EvE.x (ev_str _)))))))) h⟩)
/-! #### is_task_of -/
abbrev s_is_task_of : Stmt := top 15
abbrev N_is_task_of : List Str := ["value", "places"]
theorem sc_is_task_of : FnScope N_is_task_of ["value", "places"] (defScope s_is_task_of) := ⟨rfl, rfl, rfl, by decide +kernel, rfl, by decide +kernel, by decide +kernel⟩
def g_is_task_of : MS := (sSeq (sIf (fOrT (fNotT (fTv (fCl 2 m_is_tuple (aD (fV 0) (aD (fC (.int 3)) aNil))))) (fOrT (fNotT (fTv (fIsi "str" (fB gIx (fVx 0) (fC (.int 0)))))) (fNotT (fOrT (fTv (fB (gEq false) (fB gIx (fVx 0) (fC (.int 0))) (fC (.str "")))) (fTv (fCl 1 m_is_name (aD (fB gIx (fVx 0) (fC (.int 0))) aNil))))))) (sRet (fC (.bool false))) sNil) (sRet (fAndV (fCl 2 m_are_places (aD (fB gIx (fVx 0) (fC (.int 1))) (aD (fV 1) aNil))) (fAndV (fB (gEq true) (fB gIx (fVx 0) (fC (.int 1))) (fTup fNil)) (fCl 2 m_are_places (aD (fB gIx (fVx 0) (fC (.int 2))) (aD (fV 1) aNil)))))))
def m_is_task_of : MF := mOf 2 g_is_task_of
theorem ok_is_task_of {P : Program} {w : World} {K : PySem.W.Frag} {mg : Str → Option Value} {base : Heap} (G : Gs K mg) : Fn P w K mg base 4 "is_task_of" ["value", "places"] (SPd K 2 m_is_task_of) := by
  obtain ⟨fd, F⟩ := G.d_is_task_of
  exact fn_mk F G.g_is_task_of sc_is_task_of (FunD.bindsN F fun _ _ _ _ _ _ us hl => match us, hl with | [_, _], _ => rfl) (kbind_of F fun _ _ _ _ _ _ us hl => match us, hl with | [_, _], _ => rfl) (fun vs H Q ⟨_, _, _, _, _, _, h, _⟩ => h) (fun cdv A outer s H vs Q hr hg h => have hu := hr.units; ⟨_, (pss_cons (ps_if (PW.pt (pw_or (pt_not (pt_val (pe_fn ((ok_is_tuple G).mono (by decide)) hr hg rfl (pa_cons (pv 0) (pa_cons pe_int pa_nil))))) (pw_or (pt_not (pt_val (pe_callB call_isi rfl G.b_isinstance boot_isinstance (pa_cons (pe_ix ix_seq (pv 0) pe_int fun _ _ => rfl) (pa_cons (pe_ty rfl G.b_str boot_str) pa_nil))))) (pw_or1 (pt_not (PW.pt (pw_or (pt_cmpR (op_eqY hu) (pe_ix ix_seq (pv 0) pe_int fun _ _ => rfl) pe_str (nomark _)) (pw_or1 (pt_val (pe_fn ((ok_is_name G).mono (by decide)) hr hg rfl (pa_cons (pe_ix ix_seq (pv 0) pe_int fun _ _ => rfl) pa_nil))))))))))) (pss_one (ps_ret pe_bl)) pss_nil) (pss_one (ps_ret (pe_and (pe_fn ((ok_are_places G).mono (by decide)) hr hg rfl (pa_cons (pe_ix ix_seq (pv 0) pe_int fun _ _ => rfl) (pa_cons (pv 1) pa_nil))) (pe_and (pe_cmpR (op_neY hu) (pe_ix ix_seq (pv 0) pe_int fun _ _ => rfl) (pe_tup pa_nil) (nomark _)) (pe_one (pe_fn ((ok_are_places G).mono (by decide)) hr hg rfl (pa_cons (pe_ix ix_seq (pv 0) pe_int fun _ _ => rfl) (pa_cons (pv 1) pa_nil))))))))), body_ok (g := g_is_task_of) (evs_seq (evs_if (evt_or (evt_not (evt_val (EvE.x (ev_cl (evar_d (ev_var 0) (evar_d (ev_int _) evar_nil)))))) (evt_or (evt_not (evt_val (EvE.x (ev_isi (EvE.x (ev_op sim_ix (ev_varx 0) (EvE.x (ev_int _)))))))) (evt_not (evt_or (evt_test (EvE.x (ev_op (sim_eq false) (EvE.x (ev_op sim_ix (ev_varx 0) (EvE.x (ev_int _)))) (EvE.x (ev_str _))))) (evt_val (EvE.x (ev_cl (evar_d (ev_op sim_ix (ev_varx 0) (EvE.x (ev_int _))) evar_nil)))))))) (evs_ret (ev_bl _)) evs_nil) (evs_ret (ev_andV (EvE.x (ev_cl (evar_d (ev_op sim_ix (ev_varx 0) (EvE.x (ev_int _))) (evar_d (ev_var 1) evar_nil)))) (ev_andV (EvE.x (ev_op (sim_eq true) (EvE.x (ev_op sim_ix (ev_varx 0) (EvE.x (ev_int _)))) (EvE.x (ev_tup eva_nil)))) (ev_cl (evar_d (ev_op sim_ix (ev_varx 0) (EvE.x (ev_int _))) (evar_d (ev_var 1) evar_nil))))))) h⟩)
/-! #### is_standing_of -/
abbrev s_is_standing_of : Stmt := top 14
abbrev N_is_standing_of : List Str := ["value", "places", "one"]
theorem sc_is_standing_of : FnScope N_is_standing_of ["value", "places"] (defScope s_is_standing_of) := ⟨rfl, rfl, rfl, by decide +kernel, rfl, by decide +kernel, by decide +kernel⟩
def g_is_standing_of : MS := (sRet (fAndV (fCl 2 m_is_tuple (aD (fV 0) (aD (fV 1) aNil))) (fU gAll (fL (fLc (iT (fV 0)) [2] (tName 2) bYes (fCl 3 m_is_within (aD (fV 2) (aD (fC (.int 0)) (aD (fC (.int 9)) aNil)))))))))
def m_is_standing_of : MF := mOf 3 g_is_standing_of
theorem ok_is_standing_of {P : Program} {w : World} {K : PySem.W.Frag} {mg : Str → Option Value} {base : Heap} (G : Gs K mg) : Fn P w K mg base 3 "is_standing_of" ["value", "places"] (SPd K 2 m_is_standing_of) := by
  obtain ⟨fd, F⟩ := G.d_is_standing_of
  exact fn_mk F G.g_is_standing_of sc_is_standing_of (FunD.bindsN F fun _ _ _ _ _ _ us hl => match us, hl with | [_, _], _ => rfl) (kbind_of F fun _ _ _ _ _ _ us hl => match us, hl with | [_, _], _ => rfl) (fun vs H Q ⟨_, _, _, _, _, _, h, _⟩ => h) (fun cdv A outer s H vs Q hr hg h => have hu := hr.units; ⟨_, (pss_one (ps_ret (pe_and (pe_fn ((ok_is_tuple G).mono (by decide)) hr hg rfl (pa_cons (pv 0) (pa_cons (pv 1) pa_nil))) (pe_one (pe_callB (cr_all rfl) rfl G.b_all boot_all (pa_cons (pe_lc (own := [("one", 2)]) rfl sc_is_standing_of.nd (pi_tup (pv 0)) (show BlkOk N_is_standing_of (defScope s_is_standing_of) _ _ from blkOk_by (by decide +kernel)) (fun _ _ _ _ _ => (pg_name (i := 2) sc_is_standing_of.nd rfl (by first | exact Or.inl rfl | exact Or.inr rfl))) (fun _ _ _ _ _ => pts_nil) (fun _ _ _ _ _ => (pe_fn ((ok_is_within G).mono (by decide)) hr hg rfl (pa_cons (pv 2) (pa_cons pe_int (pa_cons (pe_cint rfl G.c_MOST_TOKENS) pa_nil)))))) pa_nil)))))), body_ok (g := g_is_standing_of) (evs_ret (ev_andV (EvE.x (ev_cl (evar_d (ev_var 0) (evar_d (ev_var 1) evar_nil)))) (ev_c1 sim_all (EvN.x (ev_lc (own := [2]) (evi_tup (ev_var 0)) (evg_name (i := 2) (by decide)) evt_yes (ev_cl (evar_d (ev_var 2) (evar_d (ev_int _) (evar_d (ev_int _) evar_nil))))))))) h⟩)
/-! #### flaw_of -/
abbrev s_flaw_of : Stmt := top 18
abbrev N_flaw_of : List Str := ["value", "task", "one", "word", "standing"]
theorem sc_flaw_of : FnScope N_flaw_of ["value"] (defScope s_flaw_of) := ⟨rfl, rfl, rfl, by decide +kernel, rfl, by decide +kernel, by decide +kernel⟩
def g_flaw_of : MS := (sSeq (sIf (fOrT (fNotT (fTv (fCl 2 m_is_tuple (aD (fV 0) (aD (fC (.int 5)) aNil))))) (fOrT (fNotT (fTv (fIsi "str" (fB gIx (fVx 0) (fC (.int 0)))))) (fTv (fB (gEq true) (fB gIx (fVx 0) (fC (.int 0))) (fC (.str "sheet")))))) (sRet (fTup (fCons (fC (.str "form")) (fCons (fC .none) fNil)))) sNil) (sSeq (sIf (fNotT (fTv (fCl 3 m_is_within (aD (fB gIx (fVx 0) (fC (.int 1))) (aD (fC (.int 1)) (aD (fC (.int 16)) aNil)))))) (sRet (fTup (fCons (fC (.str "places")) (fCons (fC .none) fNil)))) sNil) (sSeq (sIf (fOrT (fNotT (fTv (fIsi "tuple" (fB gIx (fVx 0) (fC (.int 2)))))) (fNotT (fTv (fCh gLe gLe (fC (.int 1)) (fU gLen (fB gIx (fVx 0) (fC (.int 2)))) (fC (.int 24)))))) (sRet (fTup (fCons (fC (.str "tasks")) (fCons (fC .none) fNil)))) sNil) (sSeq (sFor (iE (fB gIx (fVx 0) (fC (.int 2)))) (tTupG (tsCons (tName 1) (tsCons (tName 2) tsNil)) 2) (sIf (fNotT (fTv (fCl 2 m_is_task_of (aD (fV 2) (aD (fB gIx (fVx 0) (fC (.int 1))) aNil))))) (sRet (fTup (fCons (fC (.str "task")) (fCons (fV 1) fNil)))) sNil)) (sSeq (sFor (iT (fTup (fCons (fTup (fCons (fC (.str "first")) (fCons (fB gIx (fVx 0) (fC (.int 3))) fNil))) (fCons (fTup (fCons (fC (.str "last")) (fCons (fB gIx (fVx 0) (fC (.int 4))) fNil))) fNil)))) (tTupG (tsCons (tName 3) (tsCons (tName 4) tsNil)) 2) (sIf (fNotT (fTv (fCl 2 m_is_standing_of (aD (fV 4) (aD (fB gIx (fVx 0) (fC (.int 1))) aNil))))) (sRet (fTup (fCons (fV 3) (fCons (fC .none) fNil)))) sNil)) (sRet (fC .none)))))))
def m_flaw_of : MF := mOf 5 g_flaw_of
theorem ok_flaw_of {P : Program} {w : World} {K : PySem.W.Frag} {mg : Str → Option Value} {base : Heap} (G : Gs K mg) : Fn P w K mg base 5 "flaw_of" ["value"] (SPd K 1 m_flaw_of) := by
  obtain ⟨fd, F⟩ := G.d_flaw_of
  exact fn_mk F G.g_flaw_of sc_flaw_of (FunD.bindsN F fun _ _ _ _ _ _ us hl => match us, hl with | [_], _ => rfl) (kbind_of F fun _ _ _ _ _ _ us hl => match us, hl with | [_], _ => rfl) (fun vs H Q ⟨_, _, _, _, _, _, h, _⟩ => h) (fun cdv A outer s H vs Q hr hg h => have hu := hr.units; ⟨_, (pss_cons (ps_if (PW.pt (pw_or (pt_not (pt_val (pe_fn ((ok_is_tuple G).mono (by decide)) hr hg rfl (pa_cons (pv 0) (pa_cons pe_int pa_nil))))) (pw_or (pt_not (pt_val (pe_callB call_isi rfl G.b_isinstance boot_isinstance (pa_cons (pe_ix ix_seq (pv 0) pe_int fun _ _ => rfl) (pa_cons (pe_ty rfl G.b_str boot_str) pa_nil))))) (pw_or1 (pt_cmpR (op_neY hu) (pe_ix ix_seq (pv 0) pe_int fun _ _ => rfl) pe_str (nomark _)))))) (pss_one (ps_ret (pe_tup (pa_cons pe_str (pa_cons pe_non pa_nil))))) pss_nil) (pss_cons (ps_if (pt_not (pt_val (pe_fn ((ok_is_within G).mono (by decide)) hr hg rfl (pa_cons (pe_ix ix_seq (pv 0) pe_int fun _ _ => rfl) (pa_cons pe_int (pa_cons (pe_cint rfl G.c_MOST_PLACES) pa_nil)))))) (pss_one (ps_ret (pe_tup (pa_cons pe_str (pa_cons pe_non pa_nil))))) pss_nil) (pss_cons (ps_if (PW.pt (pw_or (pt_not (pt_val (pe_callB call_isi rfl G.b_isinstance boot_isinstance (pa_cons (pe_ix ix_seq (pv 0) pe_int fun _ _ => rfl) (pa_cons (pe_ty rfl G.b_tuple boot_tuple) pa_nil))))) (pw_or1 (pt_not (pt_chain op_le op_le pe_int (pe_callB call_len rfl G.b_len boot_len (pa_cons (pe_ix ix_seq (pv 0) pe_int fun _ _ => rfl) pa_nil)) (pe_cint rfl G.c_MOST_TASKS)))))) (pss_one (ps_ret (pe_tup (pa_cons pe_str (pa_cons pe_non pa_nil))))) pss_nil) (pss_cons (ps_for PassesOwn.never rfl (pi_enumA rfl G.b_enumerate (pa_cons (pe_ix ix_seq (pv 0) pe_int fun _ _ => rfl) pa_nil)) (pg_tup rfl (pgs_cons (pg_name (i := 1) sc_flaw_of.nd rfl (by first | exact Or.inl rfl | exact Or.inr rfl)) (pgs_cons (pg_name (i := 2) sc_flaw_of.nd rfl (by first | exact Or.inl rfl | exact Or.inr rfl)) pgs_nil))) (pss_one (ps_if (pt_not (pt_val (pe_fn ((ok_is_task_of G).mono (by decide)) hr hg rfl (pa_cons (pv 2) (pa_cons (pe_ix ix_seq (pv 0) pe_int fun _ _ => rfl) pa_nil))))) (pss_one (ps_ret (pe_tup (pa_cons pe_str (pa_cons (pv 1) pa_nil))))) pss_nil))) (pss_cons (ps_for PassesOwn.never rfl (pi_tup (pe_tup (pa_cons (pe_tup (pa_cons pe_str (pa_cons (pe_ix ix_seq (pv 0) pe_int fun _ _ => rfl) pa_nil))) (pa_cons (pe_tup (pa_cons pe_str (pa_cons (pe_ix ix_seq (pv 0) pe_int fun _ _ => rfl) pa_nil))) pa_nil)))) (pg_tup rfl (pgs_cons (pg_name (i := 3) sc_flaw_of.nd rfl (by first | exact Or.inl rfl | exact Or.inr rfl)) (pgs_cons (pg_name (i := 4) sc_flaw_of.nd rfl (by first | exact Or.inl rfl | exact Or.inr rfl)) pgs_nil))) (pss_one (ps_if (pt_not (pt_val (pe_fn ((ok_is_standing_of G).mono (by decide)) hr hg rfl (pa_cons (pv 4) (pa_cons (pe_ix ix_seq (pv 0) pe_int fun _ _ => rfl) pa_nil))))) (pss_one (ps_ret (pe_tup (pa_cons (pv 3) (pa_cons pe_non pa_nil))))) pss_nil))) (pss_one (ps_ret pe_non))))))), body_ok (g := g_flaw_of) (evs_seq (evs_if (evt_or (evt_not (evt_val (EvE.x (ev_cl (evar_d (ev_var 0) (evar_d (ev_int _) evar_nil)))))) (evt_or (evt_not (evt_val (EvE.x (ev_isi (EvE.x (ev_op sim_ix (ev_varx 0) (EvE.x (ev_int _)))))))) (evt_test (EvE.x (ev_op (sim_eq true) (EvE.x (ev_op sim_ix (ev_varx 0) (EvE.x (ev_int _)))) (EvE.x (ev_str _))))))) (evs_ret (ev_tup (eva_cons (ev_str _) (eva_cons ev_non eva_nil)))) evs_nil) (evs_seq (evs_if (evt_not (evt_val (EvE.x (ev_cl (evar_d (ev_op sim_ix (ev_varx 0) (EvE.x (ev_int _))) (evar_d (ev_int _) (evar_d (ev_int _) evar_nil))))))) (evs_ret (ev_tup (eva_cons (ev_str _) (eva_cons ev_non eva_nil)))) evs_nil) (evs_seq (evs_if (evt_or (evt_not (evt_val (EvE.x (ev_isi (EvE.x (ev_op sim_ix (ev_varx 0) (EvE.x (ev_int _)))))))) (evt_not (evt_test (EvE.x (ev_chain (sim_cmp _) (sim_cmp _) (EvE.x (ev_int _)) (EvE.x (ev_c1 sim_len (EvE.x (ev_op sim_ix (ev_varx 0) (EvE.x (ev_int _)))))) (EvE.x (ev_int _))))))) (evs_ret (ev_tup (eva_cons (ev_str _) (eva_cons ev_non eva_nil)))) evs_nil) (evs_seq (evs_for (vs := [1, 2]) (evi_enum (ev_op sim_ix (ev_varx 0) (EvE.x (ev_int _)))) (evg_tup (evgs_cons (evg_name (i := 1) (by decide)) (evgs_cons (evg_name (i := 2) (by decide)) evgs_nil))) (evs_if (evt_not (evt_val (EvE.x (ev_cl (evar_d (ev_var 2) (evar_d (ev_op sim_ix (ev_varx 0) (EvE.x (ev_int _))) evar_nil)))))) (evs_ret (ev_tup (eva_cons (ev_str _) (eva_cons (ev_var 1) eva_nil)))) evs_nil)) (evs_seq (evs_for (vs := [3, 4]) (evi_tup (ev_tup (eva_cons (ev_tup (eva_cons (ev_str _) (eva_cons (ev_op sim_ix (ev_varx 0) (EvE.x (ev_int _))) eva_nil))) (eva_cons (ev_tup (eva_cons (ev_str _) (eva_cons (ev_op sim_ix (ev_varx 0) (EvE.x (ev_int _))) eva_nil))) eva_nil)))) (evg_tup (evgs_cons (evg_name (i := 3) (by decide)) (evgs_cons (evg_name (i := 4) (by decide)) evgs_nil))) (evs_if (evt_not (evt_val (EvE.x (ev_cl (evar_d (ev_var 4) (evar_d (ev_op sim_ix (ev_varx 0) (EvE.x (ev_int _))) evar_nil)))))) (evs_ret (ev_tup (eva_cons (ev_var 3) (eva_cons ev_non eva_nil)))) evs_nil)) (evs_ret ev_non)))))) h⟩)
/-! #### sheet_flaw -/
abbrev s_sheet_flaw : Stmt := top 19
abbrev N_sheet_flaw : List Str := ["value"]
theorem sc_sheet_flaw : FnScope N_sheet_flaw ["value"] (defScope s_sheet_flaw) := ⟨rfl, rfl, rfl, by decide +kernel, rfl, by decide +kernel, by decide +kernel⟩
def g_sheet_flaw : MS := (sRet (fCl 1 m_flaw_of (aD (fV 0) aNil)))
def m_sheet_flaw : MF := mOf 1 g_sheet_flaw
theorem ok_sheet_flaw {P : Program} {w : World} {K : PySem.W.Frag} {mg : Str → Option Value} {base : Heap} (G : Gs K mg) : Fn P w K mg base 6 "sheet_flaw" ["value"] (SPd K 1 m_sheet_flaw) := by
  obtain ⟨fd, F⟩ := G.d_sheet_flaw
  exact fn_mk F G.g_sheet_flaw sc_sheet_flaw (FunD.bindsN F fun _ _ _ _ _ _ us hl => match us, hl with | [_], _ => rfl) (kbind_of F fun _ _ _ _ _ _ us hl => match us, hl with | [_], _ => rfl) (fun vs H Q ⟨_, _, _, _, _, _, h, _⟩ => h) (fun cdv A outer s H vs Q hr hg h => have hu := hr.units; ⟨_, (pss_one (ps_ret (pe_fn ((ok_flaw_of G).mono (by decide)) hr hg rfl (pa_cons (pv 0) pa_nil)))), body_ok (g := g_sheet_flaw) (evs_ret (ev_cl (evar_d (ev_var 0) evar_nil))) h⟩)
/-! #### is_sheet -/
abbrev s_is_sheet : Stmt := top 16
abbrev N_is_sheet : List Str := ["value", "one"]
theorem sc_is_sheet : FnScope N_is_sheet ["value"] (defScope s_is_sheet) := ⟨rfl, rfl, rfl, by decide +kernel, rfl, by decide +kernel, by decide +kernel⟩
def g_is_sheet : MS := (sSeq (sIf (fOrT (fNotT (fTv (fCl 2 m_is_tuple (aD (fV 0) (aD (fC (.int 5)) aNil))))) (fOrT (fNotT (fTv (fIsi "str" (fB gIx (fVx 0) (fC (.int 0)))))) (fTv (fB (gEq true) (fB gIx (fVx 0) (fC (.int 0))) (fC (.str "sheet")))))) (sRet (fC (.bool false))) sNil) (sSeq (sIf (fOrT (fNotT (fTv (fCl 3 m_is_within (aD (fB gIx (fVx 0) (fC (.int 1))) (aD (fC (.int 1)) (aD (fC (.int 16)) aNil)))))) (fNotT (fTv (fIsi "tuple" (fB gIx (fVx 0) (fC (.int 2))))))) (sRet (fC (.bool false))) sNil) (sSeq (sIf (fNotT (fTv (fCh gLe gLe (fC (.int 1)) (fU gLen (fB gIx (fVx 0) (fC (.int 2)))) (fC (.int 24))))) (sRet (fC (.bool false))) sNil) (sSeq (sIf (fNotT (fTv (fU gAll (fL (fLc (iT (fB gIx (fVx 0) (fC (.int 2)))) [1] (tName 1) bYes (fCl 2 m_is_task_of (aD (fV 1) (aD (fB gIx (fVx 0) (fC (.int 1))) aNil)))))))) (sRet (fC (.bool false))) sNil) (sRet (fAndV (fCl 2 m_is_standing_of (aD (fB gIx (fVx 0) (fC (.int 3))) (aD (fB gIx (fVx 0) (fC (.int 1))) aNil))) (fCl 2 m_is_standing_of (aD (fB gIx (fVx 0) (fC (.int 4))) (aD (fB gIx (fVx 0) (fC (.int 1))) aNil)))))))))
def m_is_sheet : MF := mOf 2 g_is_sheet
theorem ok_is_sheet {P : Program} {w : World} {K : PySem.W.Frag} {mg : Str → Option Value} {base : Heap} (G : Gs K mg) : Fn P w K mg base 5 "is_sheet" ["value"] (SPd K 1 m_is_sheet) := by
  obtain ⟨fd, F⟩ := G.d_is_sheet
  exact fn_mk F G.g_is_sheet sc_is_sheet (FunD.bindsN F fun _ _ _ _ _ _ us hl => match us, hl with | [_], _ => rfl) (kbind_of F fun _ _ _ _ _ _ us hl => match us, hl with | [_], _ => rfl) (fun vs H Q ⟨_, _, _, _, _, _, h, _⟩ => h) (fun cdv A outer s H vs Q hr hg h => have hu := hr.units; ⟨_, (pss_cons (ps_if (PW.pt (pw_or (pt_not (pt_val (pe_fn ((ok_is_tuple G).mono (by decide)) hr hg rfl (pa_cons (pv 0) (pa_cons pe_int pa_nil))))) (pw_or (pt_not (pt_val (pe_callB call_isi rfl G.b_isinstance boot_isinstance (pa_cons (pe_ix ix_seq (pv 0) pe_int fun _ _ => rfl) (pa_cons (pe_ty rfl G.b_str boot_str) pa_nil))))) (pw_or1 (pt_cmpR (op_neY hu) (pe_ix ix_seq (pv 0) pe_int fun _ _ => rfl) pe_str (nomark _)))))) (pss_one (ps_ret pe_bl)) pss_nil) (pss_cons (ps_if (PW.pt (pw_or (pt_not (pt_val (pe_fn ((ok_is_within G).mono (by decide)) hr hg rfl (pa_cons (pe_ix ix_seq (pv 0) pe_int fun _ _ => rfl) (pa_cons pe_int (pa_cons (pe_cint rfl G.c_MOST_PLACES) pa_nil)))))) (pw_or1 (pt_not (pt_val (pe_callB call_isi rfl G.b_isinstance boot_isinstance (pa_cons (pe_ix ix_seq (pv 0) pe_int fun _ _ => rfl) (pa_cons (pe_ty rfl G.b_tuple boot_tuple) pa_nil)))))))) (pss_one (ps_ret pe_bl)) pss_nil) (pss_cons (ps_if (pt_not (pt_chain op_le op_le pe_int (pe_callB call_len rfl G.b_len boot_len (pa_cons (pe_ix ix_seq (pv 0) pe_int fun _ _ => rfl) pa_nil)) (pe_cint rfl G.c_MOST_TASKS))) (pss_one (ps_ret pe_bl)) pss_nil) (pss_cons (ps_if (pt_not (pt_val (pe_callB (cr_all rfl) rfl G.b_all boot_all (pa_cons (pe_lc (own := [("one", 1)]) rfl sc_is_sheet.nd (pi_tup (pe_ix ix_seq (pv 0) pe_int fun _ _ => rfl)) (show BlkOk N_is_sheet (defScope s_is_sheet) _ _ from blkOk_by (by decide +kernel)) (fun _ _ _ _ _ => (pg_name (i := 1) sc_is_sheet.nd rfl (by first | exact Or.inl rfl | exact Or.inr rfl))) (fun _ _ _ _ _ => pts_nil) (fun _ _ _ _ _ => (pe_fn ((ok_is_task_of G).mono (by decide)) hr hg rfl (pa_cons (pv 1) (pa_cons (pe_ix ix_seq (pv 0) pe_int fun _ _ => rfl) pa_nil))))) pa_nil)))) (pss_one (ps_ret pe_bl)) pss_nil) (pss_one (ps_ret (pe_and (pe_fn ((ok_is_standing_of G).mono (by decide)) hr hg rfl (pa_cons (pe_ix ix_seq (pv 0) pe_int fun _ _ => rfl) (pa_cons (pe_ix ix_seq (pv 0) pe_int fun _ _ => rfl) pa_nil))) (pe_one (pe_fn ((ok_is_standing_of G).mono (by decide)) hr hg rfl (pa_cons (pe_ix ix_seq (pv 0) pe_int fun _ _ => rfl) (pa_cons (pe_ix ix_seq (pv 0) pe_int fun _ _ => rfl) pa_nil))))))))))), body_ok (g := g_is_sheet) (evs_seq (evs_if (evt_or (evt_not (evt_val (EvE.x (ev_cl (evar_d (ev_var 0) (evar_d (ev_int _) evar_nil)))))) (evt_or (evt_not (evt_val (EvE.x (ev_isi (EvE.x (ev_op sim_ix (ev_varx 0) (EvE.x (ev_int _)))))))) (evt_test (EvE.x (ev_op (sim_eq true) (EvE.x (ev_op sim_ix (ev_varx 0) (EvE.x (ev_int _)))) (EvE.x (ev_str _))))))) (evs_ret (ev_bl _)) evs_nil) (evs_seq (evs_if (evt_or (evt_not (evt_val (EvE.x (ev_cl (evar_d (ev_op sim_ix (ev_varx 0) (EvE.x (ev_int _))) (evar_d (ev_int _) (evar_d (ev_int _) evar_nil))))))) (evt_not (evt_val (EvE.x (ev_isi (EvE.x (ev_op sim_ix (ev_varx 0) (EvE.x (ev_int _))))))))) (evs_ret (ev_bl _)) evs_nil) (evs_seq (evs_if (evt_not (evt_test (EvE.x (ev_chain (sim_cmp _) (sim_cmp _) (EvE.x (ev_int _)) (EvE.x (ev_c1 sim_len (EvE.x (ev_op sim_ix (ev_varx 0) (EvE.x (ev_int _)))))) (EvE.x (ev_int _)))))) (evs_ret (ev_bl _)) evs_nil) (evs_seq (evs_if (evt_not (evt_val (EvE.x (ev_c1 sim_all (EvN.x (ev_lc (own := [1]) (evi_tup (ev_op sim_ix (ev_varx 0) (EvE.x (ev_int _)))) (evg_name (i := 1) (by decide)) evt_yes (ev_cl (evar_d (ev_var 1) (evar_d (ev_op sim_ix (ev_varx 0) (EvE.x (ev_int _))) evar_nil))))))))) (evs_ret (ev_bl _)) evs_nil) (evs_ret (ev_andV (EvE.x (ev_cl (evar_d (ev_op sim_ix (ev_varx 0) (EvE.x (ev_int _))) (evar_d (ev_op sim_ix (ev_varx 0) (EvE.x (ev_int _))) evar_nil)))) (ev_cl (evar_d (ev_op sim_ix (ev_varx 0) (EvE.x (ev_int _))) (evar_d (ev_op sim_ix (ev_varx 0) (EvE.x (ev_int _))) evar_nil))))))))) h⟩)
/-! #### law -/
abbrev s_law : Stmt := top 35
abbrev N_law : List Str := ["script", "turn", "pot", "sheet", "values", "value", "due", "shown", "told", "time"]
theorem sc_law : FnScope N_law ["script"] (defScope s_law) := ⟨rfl, rfl, rfl, by decide +kernel, rfl, by decide +kernel, by decide +kernel⟩
def g_law : MS := (sSeq (sFor (iR1 (fC (.int 3))) (tName 1) (sSeq (sSetP 2 (fClN 2 m__law_pot (aD (fV 0) (aD (fV 1) aNil)))) (sSeq (sSet 3 (fCl 3 m__law_sheet (aP 2 (aD (fCl 2 m__law_pick (aP 2 (aD (fL (fLst (fCons (fC (.int 3)) (fCons (fC (.int 6)) (fCons (fC (.int 16)) fNil))))) aNil))) (aD (fCl 2 m__law_pick (aP 2 (aD (fL (fLst (fCons (fC (.int 2)) (fCons (fC (.int 5)) (fCons (fC (.int 24)) fNil))))) aNil))) aNil))))) (sSeq (sSet 4 (fL (fLst (fCons (fV 3) (fCons (fL (fUN gList (fVx 3))) (fCons (fSlA (fVx 3) oNone (oSome (fC (.int 4)))) (fCons (fB gAdd (fVx 3) (fTup (fCons (fC (.int 0)) fNil))) (fCons (fB gAdd (fTup (fCons (fC (.str "Sheet")) fNil)) (fSlA (fVx 3) (oSome (fC (.int 1))) oNone)) (fCons (fC .none) (fCons (fC (.int 0)) (fCons (fC (.str "sheet")) (fCons (fTup fNil) (fCons (fL (fLst fNil)) (fCons fDict0 (fCons (fTup (fCons (fV 3) fNil)) fNil))))))))))))))) (sSeq (sSet 4 (fL (fBN gCatL (fL (fBN gCatL (fVx 4) (fCl 1 m__law_edges (aD (fV 3) aNil)))) (fL (fLc (iR1 (fC (.int 30))) [9] (tName 9) bYes (fCl 2 (m__law_bent 8) (aP 2 (aD (fV 3) aNil)))))))) (sSeq (sSet 4 (fL (fBN gCatL (fVx 4) (fL (fLc (iR1 (fC (.int 6))) [9] (tName 9) bYes (fCl 2 (m__law_bent 8) (aP 2 (aD (fCl 2 (m__law_bent 8) (aP 2 (aD (fV 3) aNil))) aNil)))))))) (sSeq (sIf (fTv (fB (gIsN true) (fCl 1 m__law_flaw (aD (fV 3) aNil)) (fC .none))) (sRet (fC (.bool false))) sNil) (sFor (iL (fV 4)) (tName 5) (sSeq (sPar 6 7 (aD (fCl 1 m__law_flaw (aD (fV 5) aNil)) (aD (fU gRepr (fVx 5)) aNil))) (sSeq (sSet 8 (fL (fLst (fCons (fCl 1 m_sheet_flaw (aD (fV 5) aNil)) (fCons (fCl 1 m_sheet_flaw (aD (fV 5) aNil)) (fCons (fCl 1 m_is_sheet (aD (fV 5) aNil)) (fCons (fCl 1 m_is_sheet (aD (fV 5) aNil)) fNil))))))) (sIf (fOrT (fTv (fB (gEq true) (fU gRepr (fVx 8)) (fU gRepr (fL (fLst (fCons (fV 6) (fCons (fV 6) (fCons (fB (gIsN false) (fVx 6) (fC .none)) (fCons (fB (gIsN false) (fVx 6) (fC .none)) fNil))))))))) (fTv (fB (gEq true) (fU gRepr (fVx 5)) (fVx 7)))) (sRet (fC (.bool false))) sNil))))))))))) (sRet (fC (.bool true))))
def m_law : MF := mOfZ 10 g_law
theorem ok_law {P : Program} {w : World} {K : PySem.W.Frag} {mg : Str → Option Value} {base : Heap} {fd : FuncData} (G : Gs K mg) (F : FunD K "law" "law" (defArgs s_law) (defBody s_law) (defScope s_law) [] [] (He.ga K "law") fd) : FnS P w K mg base 12 (He.ga K "law") fd ["script"] (SPd K 1 m_law) :=
  fnS_of F sc_law (fun vs H Q ⟨_, _, _, _, _, _, h, _⟩ => h) (fun cdv A outer s H vs Q hr hg h => have hu := hr.units; ⟨_, (pss_cons (ps_for PassesOwn.never rfl (pi_range1 rfl G.b_range (pa_cons pe_int pa_nil)) (pg_name (i := 1) sc_law.nd rfl (by first | exact Or.inl rfl | exact Or.inr rfl)) (pss_cons (ps_set (i := 2) sc_law.nd rfl (by first | exact Or.inl rfl | exact Or.inr rfl) (pe_fn ((ok__law_pot G).mono (by decide)) hr hg rfl (pa_cons (pv 0) (pa_cons (pv 1) pa_nil)))) (pss_cons (ps_set (i := 3) sc_law.nd rfl (by first | exact Or.inl rfl | exact Or.inr rfl) (pe_fn ((ok__law_sheet G).mono (by decide)) hr hg rfl (pa_cons (pv 2) (pa_cons (pe_fn ((ok__law_pick G).mono (by decide)) hr hg rfl (pa_cons (pv 2) (pa_cons (pe_lst (pa_cons pe_int (pa_cons pe_int (pa_cons pe_int pa_nil)))) pa_nil))) (pa_cons (pe_fn ((ok__law_pick G).mono (by decide)) hr hg rfl (pa_cons (pv 2) (pa_cons (pe_lst (pa_cons pe_int (pa_cons pe_int (pa_cons pe_int pa_nil)))) pa_nil))) pa_nil))))) (pss_cons (ps_set (i := 4) sc_law.nd rfl (by first | exact Or.inl rfl | exact Or.inr rfl) (pe_lst (pa_cons (pv 3) (pa_cons (pe_callTy call_list_of rfl G.b_list boot_list (pa_cons (pv 3) pa_nil)) (pa_cons (pe_slice (SlR.or sl_tupA sl_str) (pv 3) po_none (po_some pe_int)) (pa_cons (pe_op op_addAll (pv 3) (pe_tup (pa_cons pe_int pa_nil))) (pa_cons (pe_op op_addAll (pe_tup (pa_cons pe_str pa_nil)) (pe_slice (SlR.or sl_tupA sl_str) (pv 3) (po_some pe_int) po_none)) (pa_cons pe_non (pa_cons pe_int (pa_cons pe_str (pa_cons (pe_tup pa_nil) (pa_cons (pe_lst pa_nil) (pa_cons pe_dnewK (pa_cons (pe_tup (pa_cons (pv 3) pa_nil)) pa_nil)))))))))))))) (pss_cons (ps_set (i := 4) sc_law.nd rfl (by first | exact Or.inl rfl | exact Or.inr rfl) (pe_op op_catL (pe_op op_catL (pv 4) (pe_fn ((ok__law_edges G).mono (by decide)) hr hg rfl (pa_cons (pv 3) pa_nil))) (pe_lc (own := [("time", 9)]) rfl sc_law.nd (pi_range1 rfl G.b_range (pa_cons pe_int pa_nil)) (show BlkOk N_law (defScope s_law) _ _ from blkOk_by (by decide +kernel)) (fun _ _ _ _ _ => (pg_name (i := 9) sc_law.nd rfl (by first | exact Or.inl rfl | exact Or.inr rfl))) (fun _ _ _ _ _ => pts_nil) (fun _ _ _ _ _ => (pe_fn ((ok__law_bent G 8).mono (by decide)) hr hg rfl (pa_cons (pv 2) (pa_cons (pv 3) pa_nil))))))) (pss_cons (ps_set (i := 4) sc_law.nd rfl (by first | exact Or.inl rfl | exact Or.inr rfl) (pe_op op_catL (pv 4) (pe_lc (own := [("time", 9)]) rfl sc_law.nd (pi_range1 rfl G.b_range (pa_cons pe_int pa_nil)) (show BlkOk N_law (defScope s_law) _ _ from blkOk_by (by decide +kernel)) (fun _ _ _ _ _ => (pg_name (i := 9) sc_law.nd rfl (by first | exact Or.inl rfl | exact Or.inr rfl))) (fun _ _ _ _ _ => pts_nil) (fun _ _ _ _ _ => (pe_fn ((ok__law_bent G 8).mono (by decide)) hr hg rfl (pa_cons (pv 2) (pa_cons (pe_fn ((ok__law_bent G 8).mono (by decide)) hr hg rfl (pa_cons (pv 2) (pa_cons (pv 3) pa_nil))) pa_nil))))))) (pss_cons (ps_if (pt_cmpR op_notN (pe_fn ((ok__law_flaw G).mono (by decide)) hr hg rfl (pa_cons (pv 3) pa_nil)) pe_non (nomark _)) (pss_one (ps_ret pe_bl)) pss_nil) (pss_one (ps_for PassesOwn.never rfl (pi_list (pv 4)) (pg_name (i := 5) sc_law.nd rfl (by first | exact Or.inl rfl | exact Or.inr rfl)) (pss_cons (ps_par (i := 6) (j := 7) rfl sc_law.nd rfl rfl (by decide) rfl rfl (pa_cons (pe_fn ((ok__law_flaw G).mono (by decide)) hr hg rfl (pa_cons (pv 5) pa_nil)) (pa_cons (pe_callB (call_reprX hg hu) rfl G.b_repr boot_repr (pa_cons (pv 5) pa_nil)) pa_nil)) rfl) (pss_cons (ps_set (i := 8) sc_law.nd rfl (by first | exact Or.inl rfl | exact Or.inr rfl) (pe_lst (pa_cons (pe_fn ((ok_sheet_flaw G).mono (by decide)) hr hg rfl (pa_cons (pv 5) pa_nil)) (pa_cons (pe_fnK ((ok_sheet_flaw G).mono (by decide)) hr hg rfl (pk_cons (pv 5) pk_nil)) (pa_cons (pe_fn ((ok_is_sheet G).mono (by decide)) hr hg rfl (pa_cons (pv 5) pa_nil)) (pa_cons (pe_fnK ((ok_is_sheet G).mono (by decide)) hr hg rfl (pk_cons (pv 5) pk_nil)) pa_nil)))))) (pss_one (ps_if (PW.pt (pw_or (pt_cmpR (op_neY hu) (pe_callB (call_reprX hg hu) rfl G.b_repr boot_repr (pa_cons (pv 8) pa_nil)) (pe_callB (call_reprX hg hu) rfl G.b_repr boot_repr (pa_cons (pe_lst (pa_cons (pv 6) (pa_cons (pv 6) (pa_cons (pe_cmpR op_isN (pv 6) pe_non (nomark _)) (pa_cons (pe_cmpR op_isN (pv 6) pe_non (nomark _)) pa_nil))))) pa_nil)) (nomark _)) (pw_or1 (pt_cmpR (op_neY hu) (pe_callB (call_reprX hg hu) rfl G.b_repr boot_repr (pa_cons (pv 5) pa_nil)) (pv 7) (nomark _))))) (pss_one (ps_ret pe_bl)) pss_nil))))))))))))) (pss_one (ps_ret pe_bl))), body_okZ (g := g_law) (evz_seq (evz_for (vs := [1]) (evi_range1 (EvE.x (ev_int _))) (evg_name (i := 1) (by decide)) (evz_seq (evz_pot (i := 2) (ev_clN (evar_d (ev_var 0) (evar_d (ev_var 1) evar_nil)))) (evz_seq (EvS.z (evs_set (i := 3) (ev_cl (evar_p (i := 2) (evar_d (ev_cl (evar_p (i := 2) (evar_d (EvN.e (ev_lst (eva_cons (ev_int _) (eva_cons (ev_int _) (eva_cons (ev_int _) eva_nil))))) evar_nil))) (evar_d (ev_cl (evar_p (i := 2) (evar_d (EvN.e (ev_lst (eva_cons (ev_int _) (eva_cons (ev_int _) (eva_cons (ev_int _) eva_nil))))) evar_nil))) evar_nil)))))) (evz_seq (EvS.z (evs_set (i := 4) (EvN.e (ev_lst (eva_cons (ev_var 3) (eva_cons (EvN.e (ev_c1N sim_list (ev_varx 3))) (eva_cons (ev_slA (ev_varx 3) evo_none (evo_some (EvE.x (ev_int _)))) (eva_cons (ev_op sim_add (ev_varx 3) (EvE.x (ev_tup (eva_cons (ev_int _) eva_nil)))) (eva_cons (ev_op sim_add (EvE.x (ev_tup (eva_cons (ev_str _) eva_nil))) (EvE.x (ev_slA (ev_varx 3) (evo_some (EvE.x (ev_int _))) evo_none))) (eva_cons ev_non (eva_cons (ev_int _) (eva_cons (ev_str _) (eva_cons (ev_tup eva_nil) (eva_cons (EvN.e (ev_lst eva_nil)) (eva_cons ev_dict0 (eva_cons (ev_tup (eva_cons (ev_var 3) eva_nil)) eva_nil)))))))))))))))) (evz_seq (EvS.z (evs_set (i := 4) (EvN.e (ev_opN sim_catL (EvN.x (ev_opN sim_catL (ev_varx 4) (EvE.x (ev_cl (evar_d (ev_var 3) evar_nil))))) (EvN.x (ev_lc (own := [9]) (evi_range1 (EvE.x (ev_int _))) (evg_name (i := 9) (by decide)) evt_yes (ev_cl (evar_p (i := 2) (evar_d (ev_var 3) evar_nil))))))))) (evz_seq (EvS.z (evs_set (i := 4) (EvN.e (ev_opN sim_catL (ev_varx 4) (EvN.x (ev_lc (own := [9]) (evi_range1 (EvE.x (ev_int _))) (evg_name (i := 9) (by decide)) evt_yes (ev_cl (evar_p (i := 2) (evar_d (ev_cl (evar_p (i := 2) (evar_d (ev_var 3) evar_nil))) evar_nil))))))))) (evz_seq (EvS.z (evs_if (evt_test (EvE.x (ev_op sim_notN (EvE.x (ev_cl (evar_d (ev_var 3) evar_nil))) (EvE.x ev_non)))) (evs_ret (ev_bl _)) evs_nil)) (evz_for (vs := [5]) (evi_list (ev_var 4)) (evg_name (i := 5) (by decide)) (evz_seq (EvS.z (evs_par (i := 6) (j := 7) (evar_d (ev_cl (evar_d (ev_var 5) evar_nil)) (evar_d (ev_c1 sim_repr (ev_varx 5)) evar_nil)))) (evz_seq (EvS.z (evs_set (i := 8) (EvN.e (ev_lst (eva_cons (ev_cl (evar_d (ev_var 5) evar_nil)) (eva_cons (ev_cl (evar_d (ev_var 5) evar_nil)) (eva_cons (ev_cl (evar_d (ev_var 5) evar_nil)) (eva_cons (ev_cl (evar_d (ev_var 5) evar_nil)) eva_nil)))))))) (EvS.z (evs_if (evt_or (evt_test (EvE.x (ev_op (sim_eq true) (EvE.x (ev_c1 sim_repr (ev_varx 8))) (EvE.x (ev_c1 sim_repr (EvN.x (ev_lst (eva_cons (ev_var 6) (eva_cons (ev_var 6) (eva_cons (ev_op sim_isN (ev_varx 6) (EvE.x ev_non)) (eva_cons (ev_op sim_isN (ev_varx 6) (EvE.x ev_non)) eva_nil))))))))))) (evt_test (EvE.x (ev_op (sim_eq true) (EvE.x (ev_c1 sim_repr (ev_varx 5))) (ev_varx 7))))) (evs_ret (ev_bl _)) evs_nil)))))))))))) (EvS.z (evs_ret (ev_bl _)))) h⟩)
end Law10

set_option maxHeartbeats 2000000
namespace DL
open PySem L2
set_option autoImplicit false
theorem gEq_str (neg : Bool) (x y : Str) : gEq neg (.str x) (.str y) = some (.bool (if neg = true then !decide (x = y) else decide (x = y))) := rfl
theorem gEq_int (neg : Bool) (x y : Int) : gEq neg (.int x) (.int y) = some (.bool (if neg = true then !decide (x = y) else decide (x = y))) := rfl
theorem le_line {n : Nat} (h : n ≤ 1000) : (n ≤ sizeLine) = True := eq_true (by rw [sizeLine_eq]; omega)
theorem cast_2 : ((2 : Nat) : Int) = 2 := rfl
theorem cast_3 : ((3 : Nat) : Int) = 3 := rfl
theorem cast_4 : ((4 : Nat) : Int) = 4 := rfl
theorem cast_5 : ((5 : Nat) : Int) = 5 := rfl
theorem cast_1 : ((1 : Nat) : Int) = 1 := rfl
theorem cast_0 : ((0 : Nat) : Int) = 0 := rfl
theorem gLen_tup (xs : List PyData) : gLen (.tuple xs) = some (.int xs.length) := rfl
theorem gLen_lst (xs : List PyData) : gLen (.list xs) = some (.int xs.length) := rfl
theorem gIx_tup (xs : List PyData) (i : Int) : gIx (.tuple xs) (.int i) = atI xs i := rfl
theorem gIx_lst (xs : List PyData) (i : Int) : gIx (.list xs) (.int i) = atI xs i := rfl
theorem gAdd_int (i j : Int) : gAdd (.int i) (.int j) = some (.int (i + j)) := rfl
theorem kit_int (d : PyData) : kitB (tyName d) "int" = some (match d with | .int _ => true | .bool _ => true | _ => false) := by cases d <;> (dsimp only [tyName]; decide +kernel)
theorem kit_bool (d : PyData) : kitB (tyName d) "bool" = some (match d with | .bool _ => true | _ => false) := by cases d <;> (dsimp only [tyName]; decide +kernel)
theorem kit_str (d : PyData) : kitB (tyName d) "str" = some (match d with | .str _ => true | _ => false) := by cases d <;> (dsimp only [tyName]; decide +kernel)
theorem kit_tuple (d : PyData) : kitB (tyName d) "tuple" = some (match d with | .tuple _ => true | _ => false) := by cases d <;> (dsimp only [tyName]; decide +kernel)
theorem kit_list (d : PyData) : kitB (tyName d) "list" = some (match d with | .list _ => true | _ => false) := by cases d <;> (dsimp only [tyName]; decide +kernel)
def dInt : PyData → Bool
  | .int _ => true
  | _ => false
def dTup : PyData → Bool
  | .tuple _ => true
  | _ => false
def dLst : PyData → Bool
  | .list _ => true
  | _ => false
def dStr : PyData → Bool
  | .str _ => true
  | _ => false
def dBool : PyData → Bool
  | .bool _ => true
  | _ => false
theorem isi_int (d : PyData) : gIsi "int" d = some (.bool (dInt d || dBool d)) := by unfold gIsi; rw [kit_int]; cases d <;> rfl
theorem isi_bool (d : PyData) : gIsi "bool" d = some (.bool (dBool d)) := by unfold gIsi; rw [kit_bool]; cases d <;> rfl
theorem isi_str (d : PyData) : gIsi "str" d = some (.bool (dStr d)) := by unfold gIsi; rw [kit_str]; cases d <;> rfl
theorem isi_tuple (d : PyData) : gIsi "tuple" d = some (.bool (dTup d)) := by unfold gIsi; rw [kit_tuple]; cases d <;> rfl
theorem isi_list (d : PyData) : gIsi "list" d = some (.bool (dLst d)) := by unfold gIsi; rw [kit_list]; cases d <;> rfl
/-- a whole number from least to most -/
def dIn (a b : Int) : PyData → Bool
  | .int i => decide (a ≤ i) && decide (i ≤ b)
  | _ => false

section
variable {own : List Nat} {t : MG} {b : MT} {f : MX} {ρ : Ev}
theorem lcM_pure (p : PyData → Bool) (g : PyData → PyData) : ∀ (ds : List PyData) (π : Pt), (∀ x ∈ ds, ∃ ρ1, t x (wipeE ρ own) = some ρ1 ∧ b ρ1 π = some (p x, π) ∧ (p x = true → f ρ1 π = some (g x, π))) → lcM own t b f ρ ds π = some ((ds.filter p).map g, π)
  | [], π, _ => rfl
  | x :: ds, π, h => by
    obtain ⟨ρ1, h1, h2, h3⟩ := h x List.mem_cons_self
    have ih := lcM_pure p g ds π fun y hy => h y (List.mem_cons_of_mem _ hy)
    unfold lcM
    rw [h1]
    simp only [Option.bind_some, h2]
    cases hp : p x with
    | true => simp only [if_true, h3 hp, Option.bind_some, ih, Option.map_some, List.filter_cons, hp, List.map_cons]
    | false => simp only [Bool.false_eq_true, if_false, ih, List.filter_cons, hp]
theorem lcM_map (g : PyData → PyData) (ds : List PyData) (π : Pt) (h : ∀ x ∈ ds, ∃ ρ1, t x (wipeE ρ own) = some ρ1 ∧ b ρ1 π = some (true, π) ∧ f ρ1 π = some (g x, π)) : lcM own t b f ρ ds π = some (ds.map g, π) := by
  have q := lcM_pure (own := own) (t := t) (b := b) (f := f) (ρ := ρ) (fun _ => true) g ds π fun x hx => by
    obtain ⟨ρ1, h1, h2, h3⟩ := h x hx
    exact ⟨ρ1, h1, h2, fun _ => h3⟩
  rw [q, List.filter_eq_self.mpr fun _ _ => rfl]
theorem fLc_pure {it : ML} {ds : List PyData} {π π1 : Pt} (p : PyData → Bool) (g : PyData → PyData) (hi : it ρ π = some (ds, π1)) (hl : ds.length ≤ sizeLine)
    (h : ∀ x ∈ ds, ∃ ρ1, t x (wipeE ρ own) = some ρ1 ∧ b ρ1 π1 = some (p x, π1) ∧ (p x = true → f ρ1 π1 = some (g x, π1))) : fLc it own t b f ρ π = some ((ds.filter p).map g, π1) := by
  unfold fLc
  rw [hi]
  simp only [Option.bind_some, hl, if_true]
  exact lcM_pure p g ds π1 h
theorem fLc_map {it : ML} {ds : List PyData} {π π1 : Pt} (g : PyData → PyData) (hi : it ρ π = some (ds, π1)) (hl : ds.length ≤ sizeLine)
    (h : ∀ x ∈ ds, ∃ ρ1, t x (wipeE ρ own) = some ρ1 ∧ b ρ1 π1 = some (true, π1) ∧ f ρ1 π1 = some (g x, π1)) : fLc it own t b f ρ π = some (ds.map g, π1) := by
  unfold fLc
  rw [hi]
  simp only [Option.bind_some, hl, if_true]
  exact lcM_map g ds π1 h
/-- the pot goes along -/
theorem lcM_ex (P : PyData → Prop) : ∀ (ds : List PyData) (π : Pt), (∀ x ∈ ds, ∀ π, ∃ ρ1 π1 y π2, t x (wipeE ρ own) = some ρ1 ∧ b ρ1 π = some (true, π1) ∧ f ρ1 π1 = some (y, π2) ∧ P y) → ∃ ys π', lcM own t b f ρ ds π = some (ys, π') ∧ ys.length = ds.length ∧ ∀ y ∈ ys, P y
  | [], π, _ => ⟨[], π, rfl, rfl, fun _ h => nomatch h⟩
  | x :: ds, π, h => by
    obtain ⟨ρ1, π1, y, π2, h1, h2, h3, h4⟩ := h x List.mem_cons_self π
    obtain ⟨ys, π', e, hl, hp⟩ := lcM_ex P ds π2 fun y hy => h y (List.mem_cons_of_mem _ hy)
    refine ⟨y :: ys, π', ?_, by rw [List.length_cons, List.length_cons, hl], fun z hz => ?_⟩
    · unfold lcM
      rw [h1]
      simp only [Option.bind_some, h2, if_true, h3, e, Option.map_some]
    · rcases List.mem_cons.mp hz with e | e
      · rw [e]; exact h4
      · exact hp z e
end
theorem forM_inv {t : MG} {g : MS} (I : Nat → Ev → Prop) : ∀ (ds : List PyData) (i : Nat) (ρ : Ev) (π : Pt), I i ρ → (∀ j x, ds[j]? = some x → ∀ ρ π, I (i + j) ρ → ∃ ρ1 ρ2 π', t x ρ = some ρ1 ∧ g ρ1 π = some (.nx ρ2, π') ∧ I (i + j + 1) ρ2) → ∃ ρ' π', forM t g ds ρ π = some (.nx ρ', π') ∧ I (i + ds.length) ρ'
  | [], i, ρ, π, hi, _ => ⟨ρ, π, rfl, hi⟩
  | x :: ds, i, ρ, π, hi, h => by
    obtain ⟨ρ1, ρ2, π1, h1, h2, h3⟩ := h 0 x rfl ρ π hi
    have nx : ∀ j y, ds[j]? = some y → ∀ ρ π, I (i + 1 + j) ρ → ∃ ρ1 ρ2 π', t y ρ = some ρ1 ∧ g ρ1 π = some (.nx ρ2, π') ∧ I (i + 1 + j + 1) ρ2 := fun j y hy ρ π hq => by
      have e1 : i + (j + 1) = i + 1 + j := by omega
      obtain ⟨ρ3, ρ4, π3, q1, q2, q3⟩ := h (j + 1) y (by simpa using hy) ρ π (by rw [e1]; exact hq)
      rw [e1] at q3
      exact ⟨ρ3, ρ4, π3, q1, q2, q3⟩
    obtain ⟨ρ', π', e, hI⟩ := forM_inv (t := t) (g := g) I ds (i + 1) ρ2 π1 h3 nx
    refine ⟨ρ', π', ?_, ?_⟩
    · unfold forM
      rw [h1]
      simp only [Option.bind_some, h2, e]
    · have e : i + (x :: ds).length = i + 1 + ds.length := by rw [List.length_cons]; omega
      rw [e]; exact hI
theorem bools_map {α : Type} (p : α → Bool) : ∀ xs : List α, bools? (xs.map fun x => PyData.bool (p x)) = some (xs.map p)
  | [] => rfl
  | x :: xs => by
    simp only [List.map_cons, bools?, bools_map p xs, Option.map_some]
theorem gAll_map {α : Type} (p : α → Bool) (xs : List α) : gAll (.list (xs.map fun x => PyData.bool (p x))) = some (.bool (xs.all p)) := by
  simp only [gAll, bools_map, Option.map_some, List.all_map]
  rfl
theorem ints_map : ∀ ns : List Int, ints? (ns.map PyData.int) = some ns
  | [] => rfl
  | n :: ns => by simp only [List.map_cons, ints?, ints_map ns, Option.map_some]

theorem cutD_from (xs : List PyData) (k : Nat) : cutD xs (some (k : Int)) none = xs.drop k := by
  unfold cutD
  rw [HT.sIx_nat, HT.sIx_none]
  by_cases h : k ≤ xs.length
  · rw [Nat.min_eq_left h, List.take_of_length_le (by rw [List.length_drop]; omega)]
  · rw [Nat.min_eq_right (by omega), Nat.sub_self, List.take_zero, List.drop_eq_nil_of_le (by omega)]
theorem cutD_to (xs : List PyData) (k : Nat) : cutD xs none (some (k : Int)) = xs.take k := by
  unfold cutD
  rw [HT.sIx_nat, HT.sIx_none, List.drop_zero, Nat.sub_zero]
  by_cases h : k ≤ xs.length
  · rw [Nat.min_eq_left h]
  · rw [Nat.min_eq_right (by omega), List.take_length, List.take_of_length_le (by omega)]
theorem atI_nat {α : Type} (xs : List α) (k : Nat) : atI xs (k : Int) = xs[k]? := by
  unfold atI ixN
  rw [if_pos (by omega)]
  by_cases h : k < xs.length
  · rw [if_pos (by omega)]; rfl
  · rw [if_neg (by omega), List.getElem?_eq_none (by omega)]; rfl
theorem atI_0 {α : Type} (xs : List α) : atI xs 0 = xs[0]? := atI_nat xs 0
theorem atI_1 {α : Type} (xs : List α) : atI xs 1 = xs[1]? := atI_nat xs 1
theorem atI_2 {α : Type} (xs : List α) : atI xs 2 = xs[2]? := atI_nat xs 2
theorem atI_3 {α : Type} (xs : List α) : atI xs 3 = xs[3]? := atI_nat xs 3
theorem atI_4 {α : Type} (xs : List α) : atI xs 4 = xs[4]? := atI_nat xs 4

/-! #### rising rows -/
def riseI : List Int → Bool
  | [] => true
  | [_] => true
  | a :: b :: r => decide (a < b) && riseI (b :: r)
theorem riseI_zip : ∀ ns : List Int, (ns.zip (ns.drop 1)).all (fun p => decide (p.1 < p.2)) = riseI ns
  | [] => rfl
  | [_] => rfl
  | a :: b :: r => by
    have ih := riseI_zip (b :: r)
    simp only [List.drop_succ_cons, List.drop_zero, List.zip_cons_cons, List.all_cons, riseI] at ih ⊢
    rw [ih]
theorem riseI_lt : ∀ ns : List Int, riseI ns = true ↔ ns.Pairwise (· < ·)
  | [] => by simp [riseI]
  | [_] => by simp [riseI]
  | a :: b :: r => by
    have ih := riseI_lt (b :: r)
    simp only [riseI, Bool.and_eq_true, decide_eq_true_eq, ih]
    constructor
    · rintro ⟨h1, h2⟩
      refine List.pairwise_cons.mpr ⟨fun c hc => ?_, h2⟩
      rcases List.mem_cons.mp hc with e | hc
      · rw [e]; exact h1
      · exact Int.lt_trans h1 ((List.pairwise_cons.mp h2).1 c hc)
    · intro h
      obtain ⟨h1, h2⟩ := List.pairwise_cons.mp h
      exact ⟨h1 b List.mem_cons_self, h2⟩
theorem rise_srtU (ns : List Int) : decide (ns = srtU ns) = riseI ns := by
  rw [Bool.eq_iff_iff, decide_eq_true_eq, riseI_lt]
  constructor
  · intro h; rw [h]; exact srtU_lt ns
  · intro h; exact lt_eq (fun z => (srtU_mem z ns).symm) h (srtU_lt ns)
theorem allIn_ints {a b : Int} : ∀ {xs : List PyData}, xs.all (dIn a b) = true → ∃ ns : List Int, xs = ns.map PyData.int ∧ ∀ n ∈ ns, a ≤ n ∧ n ≤ b
  | [], _ => ⟨[], rfl, fun _ h => nomatch h⟩
  | x :: xs, h => by
    rw [List.all_cons, Bool.and_eq_true] at h
    obtain ⟨ns, rfl, q⟩ := allIn_ints h.2
    cases x with
    | int i =>
      have h1 := h.1
      simp only [dIn, Bool.and_eq_true, decide_eq_true_eq] at h1
      exact ⟨i :: ns, rfl, fun n hn => (List.mem_cons.mp hn).elim (fun e => by rw [e]; exact h1) (q n)⟩
    | _ => exact absurd h.1 (by simp [dIn])
theorem canLay_ints : ∀ ns : List Int, PyData.canLayAll0 (ns.map PyData.int) = true
  | [] => rfl
  | n :: ns => by simp only [List.map_cons, PyData.canLayAll0, PyData.canLay0, canLay_ints ns, Bool.and_self]
theorem depth_ints : ∀ ns : List Int, PyData.depthAll (ns.map PyData.int) = 0
  | [] => rfl
  | n :: ns => by simp only [List.map_cons, PyData.depthAll, PyData.depth, depth_ints ns, Nat.max_self]
theorem shaped_ints (ns : List Int) : SeqAt.shaped (.list (ns.map PyData.int)) = true := by
  simp only [SeqAt.shaped, PyData.canLay0, canLay_ints, PyData.depth, depth_ints, Bool.true_and, decide_eq_true_eq]
  omega
theorem shapedT_ints (ns : List Int) : SeqAt.shaped (.tuple (ns.map PyData.int)) = true := by
  simp only [SeqAt.shaped, PyData.canLay0, canLay_ints, PyData.depth, depth_ints, Bool.true_and, decide_eq_true_eq]
  omega

theorem eqvAll_ints : ∀ a b : List Int, PyData.eqvAll (a.map PyData.int) (b.map PyData.int) = decide (a = b)
  | [], [] => rfl
  | [], _ :: _ => rfl
  | _ :: _, [] => rfl
  | x :: a, y :: b => by
    have e : PyData.eqv (.int x) (.int y) = decide (x = y) := by
      rw [PyData.eqv, Bool.eq_iff_iff]; simp
    simp only [List.map_cons, PyData.eqvAll, e, eqvAll_ints a b, List.cons.injEq, Bool.decide_and]
theorem gEq_ints (neg : Bool) (a b : List Int) : gEq neg (.list (a.map PyData.int)) (.list (b.map PyData.int)) = some (.bool (if neg = true then !decide (a = b) else decide (a = b))) := by
  simp only [gEq, shaped_ints, and_self, if_true, PyData.eqv, eqvAll_ints]

/-! #### texts -/
theorem strLen (z : Str) : z.length = z.cps.toList.length := by
  show z.cps.size = _
  rw [Array.length_toList]
theorem canLay_signs : ∀ xs : List PyData, (∀ x ∈ xs, ∃ s : Str, x = .str s ∧ PyData.strOk s = true) → PyData.canLayAll0 xs = true ∧ PyData.depthAll xs = 0
  | [], _ => ⟨rfl, rfl⟩
  | x :: xs, h => by
    obtain ⟨s, rfl, hs⟩ := h x List.mem_cons_self
    obtain ⟨h1, h2⟩ := canLay_signs xs fun y hy => h y (List.mem_cons_of_mem _ hy)
    exact ⟨by simp only [PyData.canLayAll0, PyData.canLay0, hs, h1, Bool.and_self], by simp only [PyData.depthAll, PyData.depth, h2, Nat.max_self]⟩
theorem sign_ok {z : Str} (h : PyData.strOk z = true) : ∀ x ∈ signs z, ∃ s : Str, x = .str s ∧ PyData.strOk s = true := fun x hx => by
  unfold signs at hx
  obtain ⟨c, hc, rfl⟩ := List.mem_map.mp hx
  refine ⟨_, rfl, ?_⟩
  have h0 : z.cps.all (· < 0x110000) = true := h
  have := (Array.all_eq_true_iff_forall_mem.mp h0) c (Array.mem_toList_iff.mp hc)
  simpa [PyData.strOk] using this
theorem gEq_nil {xs : List PyData} (h1 : PyData.canLayAll0 xs = true) (h2 : PyData.depthAll xs = 0) (neg : Bool) : gEq neg (.list xs) (.list []) = some (.bool (if neg = true then !xs.isEmpty else xs.isEmpty)) := by
  have s1 : SeqAt.shaped (.list xs) = true := by
    simp only [SeqAt.shaped, PyData.canLay0, h1, PyData.depth, h2, Bool.true_and, decide_eq_true_eq]
    omega
  have s2 : SeqAt.shaped (.list []) = true := by decide +kernel
  have e : PyData.eqv (.list xs) (.list []) = xs.isEmpty := by
    cases xs <;> simp [PyData.eqv, PyData.eqvAll]
  simp only [gEq, s1, s2, and_self, if_true, e]
theorem filter_not_all {α : Type} (p : α → Bool) : ∀ xs : List α, (xs.filter fun x => !p x).isEmpty = xs.all p
  | [] => rfl
  | x :: xs => by
    have ih := filter_not_all p xs
    cases h : p x <;> simp_all

theorem forM_first {t : MG} {g : MS} {π : Pt} (I : Ev → Prop) (ok : PyData → Bool) (r : PyData → PyData) : ∀ (ds : List PyData) (ρ : Ev), I ρ →
    (∀ x ∈ ds, ∀ ρ, I ρ → ∃ ρ1, t x ρ = some ρ1 ∧ (ok x = true → ∃ ρ2, g ρ1 π = some (.nx ρ2, π) ∧ I ρ2) ∧ (ok x = false → g ρ1 π = some (.rt (r x), π))) →
    (ds.find? (fun x => !ok x) = none → ∃ ρ', forM t g ds ρ π = some (.nx ρ', π) ∧ I ρ') ∧ ∀ x, ds.find? (fun x => !ok x) = some x → forM t g ds ρ π = some (.rt (r x), π)
  | [], ρ, hi, _ => ⟨fun _ => ⟨ρ, rfl, hi⟩, fun x h => nomatch h⟩
  | y :: ds, ρ, hi, h => by
    obtain ⟨ρ1, h1, h2, h3⟩ := h y List.mem_cons_self ρ hi
    cases hok : ok y with
    | true =>
      obtain ⟨ρ2, h4, h5⟩ := h2 hok
      obtain ⟨q1, q2⟩ := forM_first (t := t) (g := g) I ok r ds ρ2 h5 fun x hx => h x (List.mem_cons_of_mem _ hx)
      have e : forM t g (y :: ds) ρ π = forM t g ds ρ2 π := by
        conv => lhs; unfold forM
        rw [h1]
        simp only [Option.bind_some, h4]
      rw [e, List.find?_cons, hok]
      exact ⟨q1, q2⟩
    | false =>
      have e : forM t g (y :: ds) ρ π = some (.rt (r y), π) := by
        conv => lhs; unfold forM
        rw [h1]
        simp only [Option.bind_some, h3 hok]
      rw [e, List.find?_cons, hok]
      exact ⟨(fun z => by have z' : some y = none := z; cases z'), (fun x z => by have z' : some y = some x := z; cases z'; rfl)⟩
theorem canLay_flat : ∀ xs : List PyData, (∀ x ∈ xs, ∃ i : Int, x = .int i) → PyData.canLayAll0 xs = true ∧ PyData.depthAll xs = 0
  | [], _ => ⟨rfl, rfl⟩
  | x :: xs, h => by
    obtain ⟨s, rfl⟩ := h x List.mem_cons_self
    obtain ⟨h1, h2⟩ := canLay_flat xs fun y hy => h y (List.mem_cons_of_mem _ hy)
    exact ⟨by simp only [PyData.canLayAll0, PyData.canLay0, h1, Bool.and_self], by simp only [PyData.depthAll, PyData.depth, h2, Nat.max_self]⟩
theorem numb_mem {ds : List PyData} {x : PyData} (h : x ∈ numb ds) : ∃ (i : Nat) (y : PyData), x = .tuple [.int (i : Int), y] ∧ y ∈ ds ∧ i < ds.length := by
  unfold numb at h
  obtain ⟨⟨y, i⟩, hm, rfl⟩ := List.mem_map.mp h
  obtain ⟨h1, h2⟩ := List.mem_zipIdx' hm
  exact ⟨i, y, rfl, by rw [h2]; exact List.getElem_mem _, h1⟩
theorem numb_all (p : PyData → Bool) (q : PyData → Bool) (h : ∀ (i : Int) y, q (.tuple [.int i, y]) = p y) (ds : List PyData) : (numb ds).all q = ds.all p := by
  unfold numb
  rw [List.all_map]
  have e : ∀ k, (ds.zipIdx k).all (q ∘ fun p => PyData.tuple [PyData.int (p.2 : Int), p.1]) = ds.all p := by
    induction ds with
    | nil => intro k; rfl
    | cons d ds ih =>
      intro k
      rw [List.zipIdx_cons, List.all_cons, List.all_cons, ih]
      show (q (.tuple [.int _, d]) && _) = _
      rw [h]
  exact e 0
theorem find_none_all {α : Type} (p : α → Bool) : ∀ xs : List α, (xs.find? fun x => !p x) = none ↔ xs.all p = true
  | [] => by simp
  | x :: xs => by
    have ih := find_none_all p xs
    cases h : p x <;> simp_all
end DL

set_option maxHeartbeats 2000000
namespace DL
open PySem L2
set_option autoImplicit false
mutual
/-- lengths of rows at most m, whole numbers between -b and b, texts of at most c signs -/
def vb (m : Nat) (b : Int) (c : Nat) : PyData → Bool
  | .none => true
  | .bool _ => true
  | .int i => decide (-b ≤ i) && decide (i ≤ b)
  | .str z => PyData.strOk z && decide (z.length ≤ c)
  | .list xs => decide (xs.length ≤ m) && vbs m b c xs
  | .tuple xs => decide (xs.length ≤ m) && vbs m b c xs
  | .dict kvs => kvs.isEmpty
def vbs (m : Nat) (b : Int) (c : Nat) : List PyData → Bool
  | [] => true
  | x :: xs => vb m b c x && vbs m b c xs
end
theorem vbs_iff (m : Nat) (b : Int) (c : Nat) : ∀ xs : List PyData, vbs m b c xs = true ↔ ∀ x ∈ xs, vb m b c x = true
  | [] => by simp [vbs]
  | x :: xs => by simp [vbs, vbs_iff m b c xs]
section
variable {m m' : Nat} {b b' : Int} {c c' : Nat}
theorem vb_tup {xs : List PyData} : vb m b c (.tuple xs) = true ↔ xs.length ≤ m ∧ ∀ x ∈ xs, vb m b c x = true := by
  simp only [vb, Bool.and_eq_true, decide_eq_true_eq, vbs_iff]
theorem vb_lst {xs : List PyData} : vb m b c (.list xs) = true ↔ xs.length ≤ m ∧ ∀ x ∈ xs, vb m b c x = true := by
  simp only [vb, Bool.and_eq_true, decide_eq_true_eq, vbs_iff]
theorem vb_int {i : Int} : vb m b c (.int i) = true ↔ -b ≤ i ∧ i ≤ b := by
  simp only [vb, Bool.and_eq_true, decide_eq_true_eq]
theorem vb_str {z : Str} : vb m b c (.str z) = true ↔ PyData.strOk z = true ∧ z.length ≤ c := by
  simp only [vb, Bool.and_eq_true, decide_eq_true_eq]
mutual
theorem vb_mono (hm : m ≤ m') (hb : b ≤ b') (hc : c ≤ c') : ∀ d : PyData, vb m b c d = true → vb m' b' c' d = true
  | .none, _ => rfl
  | .bool _, _ => rfl
  | .int i, h => by
    rw [vb_int] at h ⊢
    omega
  | .str z, h => by
    rw [vb_str] at h ⊢
    exact ⟨h.1, Nat.le_trans h.2 hc⟩
  | .list xs, h => by
    simp only [vb, Bool.and_eq_true, decide_eq_true_eq] at h ⊢
    exact ⟨Nat.le_trans h.1 hm, vbs_mono hm hb hc xs h.2⟩
  | .tuple xs, h => by
    simp only [vb, Bool.and_eq_true, decide_eq_true_eq] at h ⊢
    exact ⟨Nat.le_trans h.1 hm, vbs_mono hm hb hc xs h.2⟩
  | .dict kvs, h => by
    simp only [vb] at h ⊢
    exact h
theorem vbs_mono (hm : m ≤ m') (hb : b ≤ b') (hc : c ≤ c') : ∀ ds : List PyData, vbs m b c ds = true → vbs m' b' c' ds = true
  | [], _ => rfl
  | x :: xs, h => by
    simp only [vbs, Bool.and_eq_true] at h ⊢
    exact ⟨vb_mono hm hb hc x h.1, vbs_mono hm hb hc xs h.2⟩
end
theorem intShort {i : Int} (h1 : -(10 ^ 20 + 10) ≤ i) (h2 : i ≤ 10 ^ 20 + 10) : (PyData.shown (.int i)).length ≤ 22 := by
  have h : i.natAbs < 10 ^ 21 := by
    have e : (10 : Int) ^ 20 = 100000000000000000000 := by decide
    have e2 : (10 : Nat) ^ 21 = 1000000000000000000000 := by decide
    rw [e] at h1 h2
    rw [e2]
    omega
  have h3 := int_text_length_le10 (by decide) h
  show (Str.ofString (toString i)).length ≤ 22
  rw [ofString_length]
  exact h3
theorem intLog {i : Int} (h1 : -(10 ^ 20 + 10) ≤ i) (h2 : i ≤ 10 ^ 20 + 10) : i.natAbs.log2 < 1920 := by
  have h : i.natAbs < 2 ^ 1920 := by
    have e : (10 : Int) ^ 20 = 100000000000000000000 := by decide
    have e2 : i.natAbs < 2 ^ 100 := by
      have e3 : (2 : Nat) ^ 100 = 1267650600228229401496703205376 := by decide
      rw [e] at h1 h2
      rw [e3]
      omega
    exact Nat.lt_of_lt_of_le e2 (Nat.pow_le_pow_right (by decide) (by decide))
  by_cases h0 : i.natAbs = 0
  · rw [h0]; decide
  · exact (Nat.log2_lt h0).mpr h
mutual
theorem vb_show (hb : b ≤ 10 ^ 20 + 10) : ∀ d : PyData, vb m b c d = true → d.showable = true ∧ d.leavesShort 22 = true
  | .none, _ => ⟨rfl, rfl⟩
  | .bool _, _ => ⟨rfl, rfl⟩
  | .int i, h => by
    rw [vb_int] at h
    refine ⟨?_, ?_⟩
    · simp only [PyData.showable, decide_eq_true_eq]
      exact intLog (by omega) (by omega)
    · simp only [PyData.leavesShort, decide_eq_true_eq]
      exact intShort (by omega) (by omega)
  | .str z, h => by
    rw [vb_str] at h
    refine ⟨rfl, ?_⟩
    simp only [PyData.leavesShort, List.all_eq_true, decide_eq_true_eq]
    intro x hx
    have h0 : z.cps.all (· < 0x110000) = true := h.1
    have := (Array.all_eq_true_iff_forall_mem.mp h0) x (Array.mem_toList_iff.mp hx)
    simp only [decide_eq_true_eq] at this
    omega
  | .list xs, h => by
    simp only [vb, Bool.and_eq_true, decide_eq_true_eq] at h
    obtain ⟨h1, h2⟩ := vbs_show hb xs h.2
    exact ⟨by simp only [PyData.showable, h1], by simp only [PyData.leavesShort, h2]⟩
  | .tuple xs, h => by
    simp only [vb, Bool.and_eq_true, decide_eq_true_eq] at h
    obtain ⟨h1, h2⟩ := vbs_show hb xs h.2
    exact ⟨by simp only [PyData.showable, h1], by simp only [PyData.leavesShort, h2]⟩
  | .dict [], _ => ⟨rfl, rfl⟩
  | .dict (_ :: _), h => by simp [vb] at h
theorem vbs_show (hb : b ≤ 10 ^ 20 + 10) : ∀ ds : List PyData, vbs m b c ds = true → PyData.showableAll ds = true ∧ PyData.leavesShortAll 22 ds = true
  | [], _ => ⟨rfl, rfl⟩
  | x :: xs, h => by
    simp only [vbs, Bool.and_eq_true] at h
    obtain ⟨h1, h2⟩ := vb_show hb x h.1
    obtain ⟨h3, h4⟩ := vbs_show hb xs h.2
    exact ⟨by simp only [PyData.showableAll, h1, h3, Bool.and_self], by simp only [PyData.leavesShortAll, h2, h4, Bool.and_self]⟩
end
theorem gRepr_some {d : PyData} (hb : b ≤ 10 ^ 20 + 10) (h : vb m b c d = true) (hw : d.weight ≤ 600000) (hd : d.depth ≤ 60) : gRepr d = some (.str d.shown) := by
  obtain ⟨h1, h2⟩ := vb_show hb d h
  have h3 := PyData.shown_le 22 (by decide) d h2
  have h4 : d.shown.length ≤ sizeLine := by
    rw [sizeLine_eq]
    have : (22 + 2) * d.weight ≤ (22 + 2) * 600000 := Nat.mul_le_mul_left _ hw
    omega
  simp only [gRepr, h1, hd, h4, and_self, if_true]
end
theorem weightAll_append : ∀ xs ys : List PyData, PyData.weightAll (xs ++ ys) = PyData.weightAll xs + PyData.weightAll ys
  | [], ys => by simp [PyData.weightAll]
  | x :: xs, ys => by simp only [List.cons_append, PyData.weightAll, weightAll_append xs ys]; omega
theorem depthAll_append : ∀ xs ys : List PyData, PyData.depthAll (xs ++ ys) = max (PyData.depthAll xs) (PyData.depthAll ys)
  | [], ys => by simp [PyData.depthAll]
  | x :: xs, ys => by simp only [List.cons_append, PyData.depthAll, depthAll_append xs ys]; omega
theorem weight_le {W : Nat} : ∀ xs : List PyData, (∀ x ∈ xs, x.weight ≤ W) → PyData.weightAll xs ≤ xs.length * (W + 1)
  | [], _ => by simp [PyData.weightAll]
  | x :: xs, h => by
    have h1 := h x List.mem_cons_self
    have h2 := weight_le xs fun y hy => h y (List.mem_cons_of_mem _ hy)
    simp only [PyData.weightAll, List.length_cons, Nat.succ_mul]
    omega
theorem depth_le {D : Nat} : ∀ xs : List PyData, (∀ x ∈ xs, x.depth ≤ D) → PyData.depthAll xs ≤ D
  | [], _ => by simp [PyData.depthAll]
  | x :: xs, h => by
    have h1 := h x List.mem_cons_self
    have h2 := depth_le xs fun y hy => h y (List.mem_cons_of_mem _ hy)
    simp only [PyData.depthAll]
    omega
theorem depth_mem : ∀ {xs : List PyData} {x : PyData}, x ∈ xs → x.depth ≤ PyData.depthAll xs
  | y :: ys, x, h => by
    simp only [PyData.depthAll]
    rcases List.mem_cons.mp h with e | e
    · subst e; omega
    · have := depth_mem e; omega
theorem weight_mem : ∀ {xs : List PyData} {x : PyData}, x ∈ xs → x.weight + 1 ≤ PyData.weightAll xs
  | y :: ys, x, h => by
    simp only [PyData.weightAll]
    rcases List.mem_cons.mp h with e | e
    · subst e; omega
    · have := weight_mem e; omega

theorem rng {n : Int} (h0 : -1000000 ≤ n) (h1 : n ≤ 1000000) : -(2 ^ 62) ≤ n ∧ n < 2 ^ 62 := by
  have e : (2 : Int) ^ 62 = 4611686018427387904 := by decide
  rw [e]; omega
theorem upTo_get {lo : Int} {n j : Nat} {x : PyData} (h : (upTo lo n)[j]? = some x) : x = .int (lo + (j : Int)) ∧ j < n := by
  unfold upTo at h
  rw [List.getElem?_map] at h
  by_cases hj : j < n
  · rw [List.getElem?_range hj] at h
    cases h
    exact ⟨rfl, hj⟩
  · rw [List.getElem?_eq_none (by rw [List.length_range]; omega)] at h
    cases h
theorem upTo_mem {lo : Int} {n : Nat} {x : PyData} (h : x ∈ upTo lo n) : ∃ j : Nat, x = .int (lo + (j : Int)) ∧ j < n := by
  obtain ⟨j, hj⟩ := List.mem_iff_getElem?.mp h
  exact ⟨j, upTo_get hj⟩
theorem inD_ints (d : Int) : ∀ ns : List Int, inD (.int d) (ns.map PyData.int) = decide (d ∈ ns)
  | [] => by simp [inD, inV]
  | n :: ns => by
    have ih := inD_ints d ns
    unfold inD inV at ih ⊢
    rw [List.map_cons, List.map_cons, List.any_cons, ih]
    have e : eqV (vOf (.int n)) (vOf (.int d)) = decide (d = n) := by
      simp only [vOf, eqV]
      by_cases h : d = n
      · subst h; simp
      · have h' : ¬ n = d := fun z => h z.symm
        simp [h, h']
    rw [e, Bool.eq_iff_iff]
    simp
theorem flat_ints (ns : List Int) : (ns.map PyData.int).all flatD = true := by
  rw [List.all_eq_true]
  intro x hx
  obtain ⟨n, _, rfl⟩ := List.mem_map.mp hx
  rfl
theorem gIn_ints (neg : Bool) (d : Int) (ns : List Int) : gIn neg (.int d) (.list (ns.map PyData.int)) = some (.bool (if neg = true then !decide (d ∈ ns) else decide (d ∈ ns))) := by
  have e : flatD (.int d) = true := rfl
  simp only [gIn, e, flat_ints, and_self, if_true, inD_ints]
theorem sorted_lt {l : List Int} (h : l.Pairwise (· ≤ ·)) (n : l.Nodup) : l.Pairwise (· < ·) := by
  induction l with
  | nil => exact List.Pairwise.nil
  | cons x l ih =>
    obtain ⟨h1, h2⟩ := List.pairwise_cons.mp h
    obtain ⟨n1, n2⟩ := List.nodup_cons.mp n
    refine List.pairwise_cons.mpr ⟨fun y hy => ?_, ih h2 n2⟩
    have a := h1 y hy
    have b : x ≠ y := fun z => n1 (by rw [z]; exact hy)
    omega

theorem atI_pos {α : Type} (xs : List α) {d : Int} (h : 0 ≤ d) : atI xs d = xs[d.toNat]? := by
  rw [← atI_nat]
  congr 1
  omega

theorem fLc_ex {own : List Nat} {t : MG} {b : MT} {f : MX} {ρ : Ev} {it : ML} {ds : List PyData} {π π1 : Pt} (P : PyData → Prop) (hi : it ρ π = some (ds, π1)) (hl : ds.length ≤ sizeLine)
    (h : ∀ x ∈ ds, ∀ π, ∃ ρ1 π1 y π2, t x (wipeE ρ own) = some ρ1 ∧ b ρ1 π = some (true, π1) ∧ f ρ1 π1 = some (y, π2) ∧ P y) : ∃ ys π', fLc it own t b f ρ π = some (ys, π') ∧ ys.length = ds.length ∧ ∀ y ∈ ys, P y := by
  obtain ⟨ys, π', e, h1, h2⟩ := lcM_ex (own := own) (t := t) (b := b) (f := f) (ρ := ρ) P ds π1 h
  refine ⟨ys, π', ?_, h1, h2⟩
  unfold fLc
  rw [hi]
  simp only [Option.bind_some, hl, if_true]
  exact e
theorem len_line {α : Type} {xs : List α} (h : xs.length ≤ 1000000) : xs.length ≤ sizeLine := by rw [sizeLine_eq]; omega
theorem lt_line1 {n : Nat} (h : n ≤ 1000000) : (n < sizeLine) = True := eq_true (by rw [sizeLine_eq]; omega)

theorem cutD_toI (xs : List PyData) {k : Int} (h : 0 ≤ k) : cutD xs none (some k) = xs.take k.toNat := by
  have e : k = ((k.toNat : Nat) : Int) := by omega
  rw [e, cutD_to]
  rfl
theorem cutD_fromI (xs : List PyData) {k : Int} (h : 0 ≤ k) : cutD xs (some k) none = xs.drop k.toNat := by
  have e : k = ((k.toNat : Nat) : Int) := by omega
  rw [e, cutD_from]
  rfl
theorem gAdd_tup {xs ys : List PyData} (h : xs.length + ys.length ≤ 1000000) : gAdd (.tuple xs) (.tuple ys) = some (.tuple (xs ++ ys)) := by
  have e : xs.length + ys.length ≤ sizeLine := by rw [sizeLine_eq]; omega
  simp only [gAdd, e, if_true]
theorem weightAll_reverse : ∀ xs : List PyData, PyData.weightAll xs.reverse = PyData.weightAll xs
  | [] => rfl
  | x :: xs => by
    rw [List.reverse_cons, weightAll_append, weightAll_reverse xs]
    simp only [PyData.weightAll]
    omega
theorem weight_split (k : Nat) (xs : List PyData) : PyData.weightAll (xs.take k) + PyData.weightAll (xs.drop k) = PyData.weightAll xs := by
  rw [← weightAll_append, List.take_append_drop]
theorem wInt {i : Int} (h1 : -(10 ^ 20 + 10) ≤ i) (h2 : i ≤ 10 ^ 20 + 10) : (PyData.int i).weight ≤ 68 := by
  have h : i.natAbs < 2 ^ 67 := by
    have e : (10 : Int) ^ 20 = 100000000000000000000 := by decide
    have e3 : (2 : Nat) ^ 67 = 147573952589676412928 := by decide
    rw [e] at h1 h2
    rw [e3]
    omega
  simp only [PyData.weight]
  split
  · omega
  · rename_i h0
    have h0' : i.natAbs ≠ 0 := by
      intro z
      apply h0
      have : i = 0 := by omega
      rw [this]; rfl
    have := (Nat.log2_lt h0').mpr h
    omega

theorem gMul_rep {xs : List PyData} {k : Int} (h0 : xs ≠ []) (h1 : 2 ≤ k) (h2 : k ≤ 1000) (h3 : xs.length ≤ 1000) : gMul (.tuple xs) (.int k) = some (.tuple (List.replicate k.toNat xs).flatten) := by
  simp only [gMul, h0, h1, h2, h3, ne_eq, not_false_eq_true, and_self, if_true]
theorem rep_mem {xs : List PyData} {k : Nat} {x : PyData} (h : x ∈ (List.replicate k xs).flatten) : x ∈ xs := by
  obtain ⟨l, hl, hx⟩ := List.mem_flatten.mp h
  rw [(List.mem_replicate.mp hl).2] at hx
  exact hx
theorem rep_len (xs : List PyData) (k : Nat) : (List.replicate k xs).flatten.length = k * xs.length := by
  induction k with
  | zero => simp
  | succ k ih => rw [List.replicate_succ, List.flatten_cons, List.length_append, ih, Nat.succ_mul]; omega
/-- bounds, all in one -/
structure Bt (m : Nat) (b : Int) (c : Nat) (W D : Nat) (u : PyData) : Prop where
  v : vb m b c u = true
  w : u.weight ≤ W
  d : u.depth ≤ D
theorem Bt.mono {m m' : Nat} {b b' : Int} {c c' W W' D D' : Nat} {u : PyData} (h : Bt m b c W D u) (hm : m ≤ m') (hb : b ≤ b') (hc : c ≤ c') (hW : W ≤ W') (hD : D ≤ D') : Bt m' b' c' W' D' u :=
  ⟨vb_mono hm hb hc u h.v, Nat.le_trans h.w hW, Nat.le_trans h.d hD⟩
def btB (m : Nat) (b : Int) (c : Nat) (W D : Nat) (u : PyData) : Bool := vb m b c u && decide (u.weight ≤ W) && decide (u.depth ≤ D)
theorem btB_ok {m : Nat} {b : Int} {c W D : Nat} {u : PyData} (h : btB m b c W D u = true) : Bt m b c W D u := by
  simp only [btB, Bool.and_eq_true, decide_eq_true_eq] at h
  exact ⟨h.1.1, h.1.2, h.2⟩
theorem bt_tup {m : Nat} {b : Int} {c W D : Nat} {ys : List PyData} (h1 : ys.length ≤ m) (h2 : ∀ y ∈ ys, vb m b c y = true) (h3 : PyData.weightAll ys ≤ W) (h4 : PyData.depthAll ys + 1 ≤ D) : Bt m b c W D (.tuple ys) :=
  ⟨vb_tup.mpr ⟨h1, h2⟩, by simp only [PyData.weight]; exact h3, by simp only [PyData.depth]; exact h4⟩
theorem depth_sub {xs ys : List PyData} (h : ∀ y ∈ ys, y ∈ xs) : PyData.depthAll ys ≤ PyData.depthAll xs := depth_le ys fun y hy => depth_mem (h y hy)
/-- a tuple of bounded things -/
theorem Bt.tup {m : Nat} {b : Int} {c W D W' D' : Nat} {ys : List PyData} (h : ∀ y ∈ ys, Bt m b c W D y) (h1 : ys.length ≤ m) (hW : ys.length * (W + 1) ≤ W') (hD : D + 1 ≤ D') : Bt m b c W' D' (.tuple ys) :=
  bt_tup h1 (fun y hy => (h y hy).v) (Nat.le_trans (weight_le ys fun y hy => (h y hy).w) hW) (by have := depth_le ys fun y hy => (h y hy).d; omega)
theorem Bt.lst {m : Nat} {b : Int} {c W D W' D' : Nat} {ys : List PyData} (h : ∀ y ∈ ys, Bt m b c W D y) (h1 : ys.length ≤ m) (hW : ys.length * (W + 1) ≤ W') (hD : D + 1 ≤ D') : Bt m b c W' D' (.list ys) :=
  ⟨vb_lst.mpr ⟨h1, fun y hy => (h y hy).v⟩, by simp only [PyData.weight]; exact Nat.le_trans (weight_le ys fun y hy => (h y hy).w) hW, by
    simp only [PyData.depth]
    have := depth_le ys fun y hy => (h y hy).d
    omega⟩
theorem Bt.int {m : Nat} {b : Int} {c : Nat} {D : Nat} {i : Int} (h1 : -b ≤ i) (h2 : i ≤ b) (hb : b ≤ 10 ^ 20 + 10) : Bt m b c 68 D (.int i) :=
  ⟨vb_int.mpr ⟨h1, h2⟩, wInt (by omega) (by omega), by simp only [PyData.depth]; omega⟩
theorem Bt.repr {m : Nat} {b : Int} {c W D : Nat} {u : PyData} (h : Bt m b c W D u) (hb : b ≤ 10 ^ 20 + 10) (hW : W ≤ 600000) (hD : D ≤ 60) : gRepr u = some (.str u.shown) := gRepr_some hb h.v (by have := h.w; omega) (by have := h.d; omega)

theorem sSeq_nx {g h : MS} {ρ ρ1 : Ev} {π π1 : Pt} (e : g ρ π = some (.nx ρ1, π1)) : sSeq g h ρ π = h ρ1 π1 := by
  unfold sSeq
  rw [e]
  rfl
end DL

set_option maxHeartbeats 2000000
namespace Law10
open PySem DL
set_option autoImplicit false
theorem e_is_integer (x : PyData) (π : Pt) : m_is_integer [.d x] π = some (.bool (dInt x), π) := by
  unfold m_is_integer g_is_integer
  simp only [mOf, mOfZ, mOfR, asRt, entry, List.length_cons, List.length_nil, List.replicate, List.cons_append, List.nil_append, Nat.reduceAdd, Nat.reduceSub, fV, fVx, fC, fB, fBN, fU, fUN, fL, fIsi, fAndV, fOrV, fNotV, fTv, asB, asL, asT, fNotT, fAndT, fOrT, fIf, fIfN, fCh, fCl, fClN, aNil, aD, aN, aP, fNil, fCons, fTup, fLst, sNil, sSeq, sSet, sSetM, sRet, sRetN, sIf, sBrk, sCnt, sDrop, sFor, rSeq, sFrz, iL, iT, iS, iE, iZ, iR1, iR2, oNone, oSome, fSlA, fSlL, fPot, sPot, gPot, sPotN, List.getElem?_cons_zero, List.getElem?_cons_succ, List.set_cons_zero, List.set_cons_succ, Option.bind_some, Option.map_some, Option.bind_none, Option.map_none, List.all_cons, List.all_nil, Sl.dp, Bool.and_true, Bool.true_and, and_self, and_true, true_and, if_true, if_false, ite_true, ite_false, Bool.false_eq_true, reduceCtorEq, reduceIte, Bool.not_true, Bool.not_false, gEq_str, gEq_int, gAdd_int, le_line, Nat.reduceLeDiff, Nat.reduceEqDiff, ne_eq, not_false_eq_true, cast_2, cast_3, cast_4, cast_5, cast_1, cast_0, eq_self, decide_true, decide_false, isi_int, isi_bool]
  cases x <;> simp [dInt, dBool]
theorem e_is_within (x : PyData) (a b : Int) (π : Pt) : m_is_within [.d x, .d (.int a), .d (.int b)] π = some (.bool (dIn a b x), π) := by
  unfold m_is_within g_is_within
  simp only [mOf, mOfZ, mOfR, asRt, entry, List.length_cons, List.length_nil, List.replicate, List.cons_append, List.nil_append, Nat.reduceAdd, Nat.reduceSub, fV, fVx, fC, fB, fBN, fU, fUN, fL, fIsi, fAndV, fOrV, fNotV, fTv, asB, asL, asT, fNotT, fAndT, fOrT, fIf, fIfN, fCh, fCl, fClN, aNil, aD, aN, aP, fNil, fCons, fTup, fLst, sNil, sSeq, sSet, sSetM, sRet, sRetN, sIf, sBrk, sCnt, sDrop, sFor, rSeq, sFrz, iL, iT, iS, iE, iZ, iR1, iR2, oNone, oSome, fSlA, fSlL, fPot, sPot, gPot, sPotN, List.getElem?_cons_zero, List.getElem?_cons_succ, List.set_cons_zero, List.set_cons_succ, Option.bind_some, Option.map_some, Option.bind_none, Option.map_none, List.all_cons, List.all_nil, Sl.dp, Bool.and_true, Bool.true_and, and_self, and_true, true_and, if_true, if_false, ite_true, ite_false, Bool.false_eq_true, reduceCtorEq, reduceIte, Bool.not_true, Bool.not_false, gEq_str, gEq_int, gAdd_int, le_line, Nat.reduceLeDiff, Nat.reduceEqDiff, ne_eq, not_false_eq_true, cast_2, cast_3, cast_4, cast_5, cast_1, cast_0, eq_self, decide_true, decide_false, e_is_integer]
  cases x with
  | int i =>
    simp [dInt, gLe, gCmp, dIn]
    by_cases h : a ≤ i <;> simp [h]
  | _ => simp [dInt, dIn]
theorem e_number (x : PyData) (a b : Int) (π : Pt) : m__law_number [.d x, .d (.int a), .d (.int b)] π = some (.bool (dIn a b x), π) := by
  unfold m__law_number g__law_number
  simp only [mOf, mOfZ, mOfR, asRt, entry, List.length_cons, List.length_nil, List.replicate, List.cons_append, List.nil_append, Nat.reduceAdd, Nat.reduceSub, fV, fVx, fC, fB, fBN, fU, fUN, fL, fIsi, fAndV, fOrV, fNotV, fTv, asB, asL, asT, fNotT, fAndT, fOrT, fIf, fIfN, fCh, fCl, fClN, aNil, aD, aN, aP, fNil, fCons, fTup, fLst, sNil, sSeq, sSet, sSetM, sRet, sRetN, sIf, sBrk, sCnt, sDrop, sFor, rSeq, sFrz, iL, iT, iS, iE, iZ, iR1, iR2, oNone, oSome, fSlA, fSlL, fPot, sPot, gPot, sPotN, List.getElem?_cons_zero, List.getElem?_cons_succ, List.set_cons_zero, List.set_cons_succ, Option.bind_some, Option.map_some, Option.bind_none, Option.map_none, List.all_cons, List.all_nil, Sl.dp, Bool.and_true, Bool.true_and, and_self, and_true, true_and, if_true, if_false, ite_true, ite_false, Bool.false_eq_true, reduceCtorEq, reduceIte, Bool.not_true, Bool.not_false, gEq_str, gEq_int, gAdd_int, le_line, Nat.reduceLeDiff, Nat.reduceEqDiff, ne_eq, not_false_eq_true, cast_2, cast_3, cast_4, cast_5, cast_1, cast_0, eq_self, decide_true, decide_false, isi_int, isi_bool]
  cases x with
  | int i =>
    simp [dInt, dBool, gLe, gCmp, dIn]
    by_cases h : a ≤ i <;> simp [h]
  | _ => simp [dInt, dBool, dIn]
def dTupN (n : Int) : PyData → Bool
  | .tuple xs => decide ((xs.length : Int) = n)
  | _ => false
theorem e_is_tuple (x : PyData) (n : Int) (π : Pt) : m_is_tuple [.d x, .d (.int n)] π = some (.bool (dTupN n x), π) := by
  unfold m_is_tuple g_is_tuple
  simp only [mOf, mOfZ, mOfR, asRt, entry, List.length_cons, List.length_nil, List.replicate, List.cons_append, List.nil_append, Nat.reduceAdd, Nat.reduceSub, fV, fVx, fC, fB, fBN, fU, fUN, fL, fIsi, fAndV, fOrV, fNotV, fTv, asB, asL, asT, fNotT, fAndT, fOrT, fIf, fIfN, fCh, fCl, fClN, aNil, aD, aN, aP, fNil, fCons, fTup, fLst, sNil, sSeq, sSet, sSetM, sRet, sRetN, sIf, sBrk, sCnt, sDrop, sFor, rSeq, sFrz, iL, iT, iS, iE, iZ, iR1, iR2, oNone, oSome, fSlA, fSlL, fPot, sPot, gPot, sPotN, List.getElem?_cons_zero, List.getElem?_cons_succ, List.set_cons_zero, List.set_cons_succ, Option.bind_some, Option.map_some, Option.bind_none, Option.map_none, List.all_cons, List.all_nil, Sl.dp, Bool.and_true, Bool.true_and, and_self, and_true, true_and, if_true, if_false, ite_true, ite_false, Bool.false_eq_true, reduceCtorEq, reduceIte, Bool.not_true, Bool.not_false, gEq_str, gEq_int, gAdd_int, le_line, Nat.reduceLeDiff, Nat.reduceEqDiff, ne_eq, not_false_eq_true, cast_2, cast_3, cast_4, cast_5, cast_1, cast_0, eq_self, decide_true, decide_false, isi_tuple]
  cases x <;> simp [dTup, dTupN, gLen, gEq_int]
def dStand (p : Int) : PyData → Bool
  | .tuple xs => decide ((xs.length : Int) = p) && xs.all (dIn 0 9)
  | _ => false
theorem e_is_standing_of (x : PyData) (p : Int) (π : Pt) (h : ∀ xs, x = .tuple xs → xs.length ≤ sizeLine) : m_is_standing_of [.d x, .d (.int p)] π = some (.bool (dStand p x), π) := by
  unfold m_is_standing_of g_is_standing_of
  simp only [mOf, mOfZ, mOfR, asRt, entry, List.length_cons, List.length_nil, List.replicate, List.cons_append, List.nil_append, Nat.reduceAdd, Nat.reduceSub, fV, fVx, fC, fB, fBN, fU, fUN, fL, fIsi, fAndV, fOrV, fNotV, fTv, asB, asL, asT, fNotT, fAndT, fOrT, fIf, fIfN, fCh, fCl, fClN, aNil, aD, aN, aP, fNil, fCons, fTup, fLst, sNil, sSeq, sSet, sSetM, sRet, sRetN, sIf, sBrk, sCnt, sDrop, sFor, rSeq, sFrz, iL, iT, iS, iE, iZ, iR1, iR2, oNone, oSome, fSlA, fSlL, fPot, sPot, gPot, sPotN, List.getElem?_cons_zero, List.getElem?_cons_succ, List.set_cons_zero, List.set_cons_succ, Option.bind_some, Option.map_some, Option.bind_none, Option.map_none, List.all_cons, List.all_nil, Sl.dp, Bool.and_true, Bool.true_and, and_self, and_true, true_and, if_true, if_false, ite_true, ite_false, Bool.false_eq_true, reduceCtorEq, reduceIte, Bool.not_true, Bool.not_false, gEq_str, gEq_int, gAdd_int, le_line, Nat.reduceLeDiff, Nat.reduceEqDiff, ne_eq, not_false_eq_true, cast_2, cast_3, cast_4, cast_5, cast_1, cast_0, eq_self, decide_true, decide_false, e_is_tuple]
  cases x with
  | tuple xs =>
    have hl := h xs rfl
    simp only [dTupN, dStand]
    by_cases hp : (xs.length : Int) = p
    · rw [fLc_map (ds := xs) (π1 := π) (fun x => .bool (dIn 0 9 x))]
      · simp [hp, gAll_map]
      · rfl
      · exact hl
      · exact fun x hx => ⟨_, rfl, rfl, by simp only [mOf, mOfZ, mOfR, asRt, entry, List.length_cons, List.length_nil, List.replicate, List.cons_append, List.nil_append, Nat.reduceAdd, Nat.reduceSub, fV, fVx, fC, fB, fBN, fU, fUN, fL, fIsi, fAndV, fOrV, fNotV, fTv, asB, asL, asT, fNotT, fAndT, fOrT, fIf, fIfN, fCh, fCl, fClN, aNil, aD, aN, aP, fNil, fCons, fTup, fLst, sNil, sSeq, sSet, sSetM, sRet, sRetN, sIf, sBrk, sCnt, sDrop, sFor, rSeq, sFrz, iL, iT, iS, iE, iZ, iR1, iR2, oNone, oSome, fSlA, fSlL, fPot, sPot, gPot, sPotN, List.getElem?_cons_zero, List.getElem?_cons_succ, List.set_cons_zero, List.set_cons_succ, Option.bind_some, Option.map_some, Option.bind_none, Option.map_none, List.all_cons, List.all_nil, Sl.dp, Bool.and_true, Bool.true_and, and_self, and_true, true_and, if_true, if_false, ite_true, ite_false, Bool.false_eq_true, reduceCtorEq, reduceIte, Bool.not_true, Bool.not_false, gEq_str, gEq_int, gAdd_int, le_line, Nat.reduceLeDiff, Nat.reduceEqDiff, ne_eq, not_false_eq_true, cast_2, cast_3, cast_4, cast_5, cast_1, cast_0, eq_self, decide_true, decide_false, wipeE, e_is_within]⟩
    · simp [hp]
  | _ => simp [dTupN, dStand]

theorem e_law_is_standing (x : PyData) (p : Int) (π : Pt) (h : ∀ xs, x = .tuple xs → xs.length ≤ sizeLine) : m__law_is_standing [.d x, .d (.int p)] π = some (.bool (dStand p x), π) := by
  unfold m__law_is_standing g__law_is_standing
  simp only [mOf, mOfZ, mOfR, asRt, entry, List.length_cons, List.length_nil, List.replicate, List.cons_append, List.nil_append, Nat.reduceAdd, Nat.reduceSub, fV, fVx, fC, fB, fBN, fU, fUN, fL, fIsi, fAndV, fOrV, fNotV, fTv, asB, asL, asT, fNotT, fAndT, fOrT, fIf, fIfN, fCh, fCl, fClN, aNil, aD, aN, aP, fNil, fCons, fTup, fLst, sNil, sSeq, sSet, sSetM, sRet, sRetN, sIf, sBrk, sCnt, sDrop, sFor, rSeq, sFrz, iL, iT, iS, iE, iZ, iR1, iR2, oNone, oSome, fSlA, fSlL, fPot, sPot, gPot, sPotN, List.getElem?_cons_zero, List.getElem?_cons_succ, List.set_cons_zero, List.set_cons_succ, Option.bind_some, Option.map_some, Option.bind_none, Option.map_none, List.all_cons, List.all_nil, Sl.dp, Bool.and_true, Bool.true_and, and_self, and_true, true_and, if_true, if_false, ite_true, ite_false, Bool.false_eq_true, reduceCtorEq, reduceIte, Bool.not_true, Bool.not_false, gEq_str, gEq_int, gAdd_int, le_line, Nat.reduceLeDiff, Nat.reduceEqDiff, ne_eq, not_false_eq_true, cast_2, cast_3, cast_4, cast_5, cast_1, cast_0, eq_self, decide_true, decide_false, isi_tuple]
  cases x with
  | tuple xs =>
    have hl := h xs rfl
    simp only [mOf, mOfZ, mOfR, asRt, entry, List.length_cons, List.length_nil, List.replicate, List.cons_append, List.nil_append, Nat.reduceAdd, Nat.reduceSub, fV, fVx, fC, fB, fBN, fU, fUN, fL, fIsi, fAndV, fOrV, fNotV, fTv, asB, asL, asT, fNotT, fAndT, fOrT, fIf, fIfN, fCh, fCl, fClN, aNil, aD, aN, aP, fNil, fCons, fTup, fLst, sNil, sSeq, sSet, sSetM, sRet, sRetN, sIf, sBrk, sCnt, sDrop, sFor, rSeq, sFrz, iL, iT, iS, iE, iZ, iR1, iR2, oNone, oSome, fSlA, fSlL, fPot, sPot, gPot, sPotN, List.getElem?_cons_zero, List.getElem?_cons_succ, List.set_cons_zero, List.set_cons_succ, Option.bind_some, Option.map_some, Option.bind_none, Option.map_none, List.all_cons, List.all_nil, Sl.dp, Bool.and_true, Bool.true_and, and_self, and_true, true_and, if_true, if_false, ite_true, ite_false, Bool.false_eq_true, reduceCtorEq, reduceIte, Bool.not_true, Bool.not_false, gEq_str, gEq_int, gAdd_int, le_line, Nat.reduceLeDiff, Nat.reduceEqDiff, ne_eq, not_false_eq_true, cast_2, cast_3, cast_4, cast_5, cast_1, cast_0, eq_self, decide_true, decide_false, dTup, dStand, gLen]
    by_cases hp : (xs.length : Int) = p
    · rw [fLc_map (ds := xs) (π1 := π) (fun x => .bool (dIn 0 9 x))]
      · simp [hp, gAll_map]
      · rfl
      · exact hl
      · exact fun x hx => ⟨_, rfl, rfl, by simp only [mOf, mOfZ, mOfR, asRt, entry, List.length_cons, List.length_nil, List.replicate, List.cons_append, List.nil_append, Nat.reduceAdd, Nat.reduceSub, fV, fVx, fC, fB, fBN, fU, fUN, fL, fIsi, fAndV, fOrV, fNotV, fTv, asB, asL, asT, fNotT, fAndT, fOrT, fIf, fIfN, fCh, fCl, fClN, aNil, aD, aN, aP, fNil, fCons, fTup, fLst, sNil, sSeq, sSet, sSetM, sRet, sRetN, sIf, sBrk, sCnt, sDrop, sFor, rSeq, sFrz, iL, iT, iS, iE, iZ, iR1, iR2, oNone, oSome, fSlA, fSlL, fPot, sPot, gPot, sPotN, List.getElem?_cons_zero, List.getElem?_cons_succ, List.set_cons_zero, List.set_cons_succ, Option.bind_some, Option.map_some, Option.bind_none, Option.map_none, List.all_cons, List.all_nil, Sl.dp, Bool.and_true, Bool.true_and, and_self, and_true, true_and, if_true, if_false, ite_true, ite_false, Bool.false_eq_true, reduceCtorEq, reduceIte, Bool.not_true, Bool.not_false, gEq_str, gEq_int, gAdd_int, le_line, Nat.reduceLeDiff, Nat.reduceEqDiff, ne_eq, not_false_eq_true, cast_2, cast_3, cast_4, cast_5, cast_1, cast_0, eq_self, decide_true, decide_false, wipeE, e_number]⟩
    · simp [hp]
  | _ => simp [dTup, dStand]
theorem e_are_rising (ns : List Int) (π : Pt) (h : ns.length ≤ sizeLine) : m_are_rising [.d (.tuple (ns.map PyData.int))] π = some (.bool (riseI ns), π) := by
  unfold m_are_rising g_are_rising
  simp only [mOf, mOfZ, mOfR, asRt, entry, List.length_cons, List.length_nil, List.replicate, List.cons_append, List.nil_append, Nat.reduceAdd, Nat.reduceSub, fV, fVx, fC, fB, fBN, fU, fUN, fL, fIsi, fAndV, fOrV, fNotV, fTv, asB, asL, asT, fNotT, fAndT, fOrT, fIf, fIfN, fCh, fCl, fClN, aNil, aD, aN, aP, fNil, fCons, fTup, fLst, sNil, sSeq, sSet, sSetM, sRet, sRetN, sIf, sBrk, sCnt, sDrop, sFor, rSeq, sFrz, iL, iT, iS, iE, iZ, iR1, iR2, oNone, oSome, fSlA, fSlL, fPot, sPot, gPot, sPotN, List.getElem?_cons_zero, List.getElem?_cons_succ, List.set_cons_zero, List.set_cons_succ, Option.bind_some, Option.map_some, Option.bind_none, Option.map_none, List.all_cons, List.all_nil, Sl.dp, Bool.and_true, Bool.true_and, and_self, and_true, true_and, if_true, if_false, ite_true, ite_false, Bool.false_eq_true, reduceCtorEq, reduceIte, Bool.not_true, Bool.not_false, gEq_str, gEq_int, gAdd_int, le_line, Nat.reduceLeDiff, Nat.reduceEqDiff, ne_eq, not_false_eq_true, cast_2, cast_3, cast_4, cast_5, cast_1, cast_0, eq_self, decide_true, decide_false]
  rw [fLc_map (ds := pairs (ns.map PyData.int) ((ns.drop 1).map PyData.int)) (π1 := π) (fun x => match x with | .tuple [.int a, .int b] => .bool (decide (a < b)) | _ => .none)]
  · have e : (pairs (ns.map PyData.int) ((ns.drop 1).map PyData.int)).map (fun x => match x with | .tuple [.int a, .int b] => PyData.bool (decide (a < b)) | _ => .none) = (ns.zip (ns.drop 1)).map fun p => PyData.bool (decide (p.1 < p.2)) := by
      unfold pairs
      rw [List.zip_map, List.map_map, List.map_map]
      rfl
    simp only [Option.map_some, Option.bind_some]
    rw [e, gAll_map, riseI_zip]
    rfl
  · simp only [mOf, mOfZ, mOfR, asRt, entry, List.length_cons, List.length_nil, List.replicate, List.cons_append, List.nil_append, Nat.reduceAdd, Nat.reduceSub, fV, fVx, fC, fB, fBN, fU, fUN, fL, fIsi, fAndV, fOrV, fNotV, fTv, asB, asL, asT, fNotT, fAndT, fOrT, fIf, fIfN, fCh, fCl, fClN, aNil, aD, aN, aP, fNil, fCons, fTup, fLst, sNil, sSeq, sSet, sSetM, sRet, sRetN, sIf, sBrk, sCnt, sDrop, sFor, rSeq, sFrz, iL, iT, iS, iE, iZ, iR1, iR2, oNone, oSome, fSlA, fSlL, fPot, sPot, gPot, sPotN, List.getElem?_cons_zero, List.getElem?_cons_succ, List.set_cons_zero, List.set_cons_succ, Option.bind_some, Option.map_some, Option.bind_none, Option.map_none, List.all_cons, List.all_nil, Sl.dp, Bool.and_true, Bool.true_and, and_self, and_true, true_and, if_true, if_false, ite_true, ite_false, Bool.false_eq_true, reduceCtorEq, reduceIte, Bool.not_true, Bool.not_false, gEq_str, gEq_int, gAdd_int, le_line, Nat.reduceLeDiff, Nat.reduceEqDiff, ne_eq, not_false_eq_true, cast_2, cast_3, cast_4, cast_5, cast_1, cast_0, eq_self, decide_true, decide_false]
    have e : cutD (ns.map PyData.int) (some 1) none = (ns.drop 1).map PyData.int := by
      rw [List.map_drop]; exact cutD_from _ 1
    rw [e]
  · unfold pairs
    rw [List.length_map, List.length_zip, List.length_map, List.length_map]
    omega
  · intro x hx
    unfold pairs at hx
    rw [List.zip_map, List.map_map] at hx
    obtain ⟨⟨a, b⟩, _, rfl⟩ := List.mem_map.mp hx
    exact ⟨_, rfl, rfl, by simp only [mOf, mOfZ, mOfR, asRt, entry, List.length_cons, List.length_nil, List.replicate, List.cons_append, List.nil_append, Nat.reduceAdd, Nat.reduceSub, fV, fVx, fC, fB, fBN, fU, fUN, fL, fIsi, fAndV, fOrV, fNotV, fTv, asB, asL, asT, fNotT, fAndT, fOrT, fIf, fIfN, fCh, fCl, fClN, aNil, aD, aN, aP, fNil, fCons, fTup, fLst, sNil, sSeq, sSet, sSetM, sRet, sRetN, sIf, sBrk, sCnt, sDrop, sFor, rSeq, sFrz, iL, iT, iS, iE, iZ, iR1, iR2, oNone, oSome, fSlA, fSlL, fPot, sPot, gPot, sPotN, List.getElem?_cons_zero, List.getElem?_cons_succ, List.set_cons_zero, List.set_cons_succ, Option.bind_some, Option.map_some, Option.bind_none, Option.map_none, List.all_cons, List.all_nil, Sl.dp, Bool.and_true, Bool.true_and, and_self, and_true, true_and, if_true, if_false, ite_true, ite_false, Bool.false_eq_true, reduceCtorEq, reduceIte, Bool.not_true, Bool.not_false, gEq_str, gEq_int, gAdd_int, le_line, Nat.reduceLeDiff, Nat.reduceEqDiff, ne_eq, not_false_eq_true, cast_2, cast_3, cast_4, cast_5, cast_1, cast_0, eq_self, decide_true, decide_false, wipeE, gLt, gCmp]; rfl⟩
def dPlaces (p : Int) : PyData → Bool
  | .tuple xs => xs.all (dIn 0 (p - 1)) && (match ints? xs with
    | some ns => riseI ns
    | none => false)
  | _ => false
theorem dPlaces_ints (p : Int) (ns : List Int) (h : ∀ n ∈ ns, 0 ≤ n ∧ n ≤ p - 1) : dPlaces p (.tuple (ns.map PyData.int)) = riseI ns := by
  have e : (ns.map PyData.int).all (dIn 0 (p - 1)) = true := by
    rw [List.all_eq_true]
    intro x hx
    obtain ⟨n, hn, rfl⟩ := List.mem_map.mp hx
    have := h n hn
    simp [dIn, this.1]
    omega
  simp only [dPlaces, e, ints_map, Bool.true_and]
theorem e_are_places (x : PyData) (p : Int) (π : Pt) (h : ∀ xs, x = .tuple xs → xs.length ≤ sizeLine) : m_are_places [.d x, .d (.int p)] π = some (.bool (dPlaces p x), π) := by
  unfold m_are_places g_are_places
  simp only [mOf, mOfZ, mOfR, asRt, entry, List.length_cons, List.length_nil, List.replicate, List.cons_append, List.nil_append, Nat.reduceAdd, Nat.reduceSub, fV, fVx, fC, fB, fBN, fU, fUN, fL, fIsi, fAndV, fOrV, fNotV, fTv, asB, asL, asT, fNotT, fAndT, fOrT, fIf, fIfN, fCh, fCl, fClN, aNil, aD, aN, aP, fNil, fCons, fTup, fLst, sNil, sSeq, sSet, sSetM, sRet, sRetN, sIf, sBrk, sCnt, sDrop, sFor, rSeq, sFrz, iL, iT, iS, iE, iZ, iR1, iR2, oNone, oSome, fSlA, fSlL, fPot, sPot, gPot, sPotN, List.getElem?_cons_zero, List.getElem?_cons_succ, List.set_cons_zero, List.set_cons_succ, Option.bind_some, Option.map_some, Option.bind_none, Option.map_none, List.all_cons, List.all_nil, Sl.dp, Bool.and_true, Bool.true_and, and_self, and_true, true_and, if_true, if_false, ite_true, ite_false, Bool.false_eq_true, reduceCtorEq, reduceIte, Bool.not_true, Bool.not_false, gEq_str, gEq_int, gAdd_int, le_line, Nat.reduceLeDiff, Nat.reduceEqDiff, ne_eq, not_false_eq_true, cast_2, cast_3, cast_4, cast_5, cast_1, cast_0, eq_self, decide_true, decide_false, isi_tuple]
  cases x with
  | tuple xs =>
    have hl := h xs rfl
    simp only [dTup, if_true]
    rw [fLc_map (ds := xs) (π1 := π) (fun x => .bool (dIn 0 (p - 1) x))]
    · simp only [Option.map_some, Option.bind_some, gAll_map]
      by_cases ha : xs.all (dIn 0 (p - 1)) = true
      · obtain ⟨ns, rfl, q⟩ := allIn_ints ha
        rw [List.length_map] at hl
        simp only [ha, if_true]
        simp only [mOf, mOfZ, mOfR, asRt, entry, List.length_cons, List.length_nil, List.replicate, List.cons_append, List.nil_append, Nat.reduceAdd, Nat.reduceSub, fV, fVx, fC, fB, fBN, fU, fUN, fL, fIsi, fAndV, fOrV, fNotV, fTv, asB, asL, asT, fNotT, fAndT, fOrT, fIf, fIfN, fCh, fCl, fClN, aNil, aD, aN, aP, fNil, fCons, fTup, fLst, sNil, sSeq, sSet, sSetM, sRet, sRetN, sIf, sBrk, sCnt, sDrop, sFor, rSeq, sFrz, iL, iT, iS, iE, iZ, iR1, iR2, oNone, oSome, fSlA, fSlL, fPot, sPot, gPot, sPotN, List.getElem?_cons_zero, List.getElem?_cons_succ, List.set_cons_zero, List.set_cons_succ, Option.bind_some, Option.map_some, Option.bind_none, Option.map_none, List.all_cons, List.all_nil, Sl.dp, Bool.and_true, Bool.true_and, and_self, and_true, true_and, if_true, if_false, ite_true, ite_false, Bool.false_eq_true, reduceCtorEq, reduceIte, Bool.not_true, Bool.not_false, gEq_str, gEq_int, gAdd_int, le_line, Nat.reduceLeDiff, Nat.reduceEqDiff, ne_eq, not_false_eq_true, cast_2, cast_3, cast_4, cast_5, cast_1, cast_0, eq_self, decide_true, decide_false, e_are_rising ns π hl, dPlaces_ints p ns q]
      · simp [ha, dPlaces]
    · rfl
    · exact hl
    · exact fun x hx => ⟨_, rfl, rfl, by simp only [mOf, mOfZ, mOfR, asRt, entry, List.length_cons, List.length_nil, List.replicate, List.cons_append, List.nil_append, Nat.reduceAdd, Nat.reduceSub, fV, fVx, fC, fB, fBN, fU, fUN, fL, fIsi, fAndV, fOrV, fNotV, fTv, asB, asL, asT, fNotT, fAndT, fOrT, fIf, fIfN, fCh, fCl, fClN, aNil, aD, aN, aP, fNil, fCons, fTup, fLst, sNil, sSeq, sSet, sSetM, sRet, sRetN, sIf, sBrk, sCnt, sDrop, sFor, rSeq, sFrz, iL, iT, iS, iE, iZ, iR1, iR2, oNone, oSome, fSlA, fSlL, fPot, sPot, gPot, sPotN, List.getElem?_cons_zero, List.getElem?_cons_succ, List.set_cons_zero, List.set_cons_succ, Option.bind_some, Option.map_some, Option.bind_none, Option.map_none, List.all_cons, List.all_nil, Sl.dp, Bool.and_true, Bool.true_and, and_self, and_true, true_and, if_true, if_false, ite_true, ite_false, Bool.false_eq_true, reduceCtorEq, reduceIte, Bool.not_true, Bool.not_false, gEq_str, gEq_int, gAdd_int, le_line, Nat.reduceLeDiff, Nat.reduceEqDiff, ne_eq, not_false_eq_true, cast_2, cast_3, cast_4, cast_5, cast_1, cast_0, eq_self, decide_true, decide_false, wipeE, e_is_within, gSubI]⟩
  | _ => simp [dTup, dPlaces]
theorem e_law_are_places (x : PyData) (p : Int) (π : Pt) (h : ∀ xs, x = .tuple xs → xs.length < 63) : m__law_are_places [.d x, .d (.int p)] π = some (.bool (dPlaces p x), π) := by
  unfold m__law_are_places g__law_are_places
  simp only [mOf, mOfZ, mOfR, asRt, entry, List.length_cons, List.length_nil, List.replicate, List.cons_append, List.nil_append, Nat.reduceAdd, Nat.reduceSub, fV, fVx, fC, fB, fBN, fU, fUN, fL, fIsi, fAndV, fOrV, fNotV, fTv, asB, asL, asT, fNotT, fAndT, fOrT, fIf, fIfN, fCh, fCl, fClN, aNil, aD, aN, aP, fNil, fCons, fTup, fLst, sNil, sSeq, sSet, sSetM, sRet, sRetN, sIf, sBrk, sCnt, sDrop, sFor, rSeq, sFrz, iL, iT, iS, iE, iZ, iR1, iR2, oNone, oSome, fSlA, fSlL, fPot, sPot, gPot, sPotN, List.getElem?_cons_zero, List.getElem?_cons_succ, List.set_cons_zero, List.set_cons_succ, Option.bind_some, Option.map_some, Option.bind_none, Option.map_none, List.all_cons, List.all_nil, Sl.dp, Bool.and_true, Bool.true_and, and_self, and_true, true_and, if_true, if_false, ite_true, ite_false, Bool.false_eq_true, reduceCtorEq, reduceIte, Bool.not_true, Bool.not_false, gEq_str, gEq_int, gAdd_int, le_line, Nat.reduceLeDiff, Nat.reduceEqDiff, ne_eq, not_false_eq_true, cast_2, cast_3, cast_4, cast_5, cast_1, cast_0, eq_self, decide_true, decide_false, isi_tuple]
  cases x with
  | tuple xs =>
    have hl := h xs rfl
    simp only [dTup, if_true, Bool.not_true, Bool.false_eq_true, if_false]
    rw [fLc_map (ds := xs) (π1 := π) (fun x => .bool (dIn 0 (p - 1) x))]
    · simp only [Option.map_some, Option.bind_some, gAll_map]
      by_cases ha : xs.all (dIn 0 (p - 1)) = true
      · obtain ⟨ns, rfl, q⟩ := allIn_ints ha
        rw [List.length_map] at hl
        simp only [ha, Bool.not_true, Bool.false_eq_true, if_false]
        simp only [mOf, mOfZ, mOfR, asRt, entry, List.length_cons, List.length_nil, List.replicate, List.cons_append, List.nil_append, Nat.reduceAdd, Nat.reduceSub, fV, fVx, fC, fB, fBN, fU, fUN, fL, fIsi, fAndV, fOrV, fNotV, fTv, asB, asL, asT, fNotT, fAndT, fOrT, fIf, fIfN, fCh, fCl, fClN, aNil, aD, aN, aP, fNil, fCons, fTup, fLst, sNil, sSeq, sSet, sSetM, sRet, sRetN, sIf, sBrk, sCnt, sDrop, sFor, rSeq, sFrz, iL, iT, iS, iE, iZ, iR1, iR2, oNone, oSome, fSlA, fSlL, fPot, sPot, gPot, sPotN, List.getElem?_cons_zero, List.getElem?_cons_succ, List.set_cons_zero, List.set_cons_succ, Option.bind_some, Option.map_some, Option.bind_none, Option.map_none, List.all_cons, List.all_nil, Sl.dp, Bool.and_true, Bool.true_and, and_self, and_true, true_and, if_true, if_false, ite_true, ite_false, Bool.false_eq_true, reduceCtorEq, reduceIte, Bool.not_true, Bool.not_false, gEq_str, gEq_int, gAdd_int, le_line, Nat.reduceLeDiff, Nat.reduceEqDiff, ne_eq, not_false_eq_true, cast_2, cast_3, cast_4, cast_5, cast_1, cast_0, eq_self, decide_true, decide_false, gList, gSortSet, ints_map, hl]
        rw [gEq_ints, dPlaces_ints p ns q, rise_srtU]
        rfl
      · simp [ha, dPlaces]
    · rfl
    · rw [sizeLine_eq]; omega
    · exact fun x hx => ⟨_, rfl, rfl, by simp only [mOf, mOfZ, mOfR, asRt, entry, List.length_cons, List.length_nil, List.replicate, List.cons_append, List.nil_append, Nat.reduceAdd, Nat.reduceSub, fV, fVx, fC, fB, fBN, fU, fUN, fL, fIsi, fAndV, fOrV, fNotV, fTv, asB, asL, asT, fNotT, fAndT, fOrT, fIf, fIfN, fCh, fCl, fClN, aNil, aD, aN, aP, fNil, fCons, fTup, fLst, sNil, sSeq, sSet, sSetM, sRet, sRetN, sIf, sBrk, sCnt, sDrop, sFor, rSeq, sFrz, iL, iT, iS, iE, iZ, iR1, iR2, oNone, oSome, fSlA, fSlL, fPot, sPot, gPot, sPotN, List.getElem?_cons_zero, List.getElem?_cons_succ, List.set_cons_zero, List.set_cons_succ, Option.bind_some, Option.map_some, Option.bind_none, Option.map_none, List.all_cons, List.all_nil, Sl.dp, Bool.and_true, Bool.true_and, and_self, and_true, true_and, if_true, if_false, ite_true, ite_false, Bool.false_eq_true, reduceCtorEq, reduceIte, Bool.not_true, Bool.not_false, gEq_str, gEq_int, gAdd_int, le_line, Nat.reduceLeDiff, Nat.reduceEqDiff, ne_eq, not_false_eq_true, cast_2, cast_3, cast_4, cast_5, cast_1, cast_0, eq_self, decide_true, decide_false, wipeE, e_number, gSubI]⟩
  | _ => simp [dTup, dPlaces]

abbrev LET : Str := "abcdefghijklmnopqrstuvwxyz"
abbrev SIG : Str := "abcdefghijklmnopqrstuvwxyz0123456789_"
def pS : PyData → Bool
  | .str s => inS s SIG
  | _ => false
def nameB (z : Str) : Bool := decide (z.length ≤ 12) && (match z.cps.toList[0]? with
  | some c => inS ⟨#[c]⟩ LET
  | none => false) && (signs z).all pS
def dName : PyData → Bool
  | .str z => nameB z
  | _ => false
theorem sig_eq : LET ++ ("0123456789_" : Str) = SIG := by decide +kernel
theorem signs_len (z : Str) : (signs z).length = z.length := by
  unfold signs
  rw [List.length_map, strLen]
theorem e_is_name (x : PyData) (π : Pt) (h : ∀ z, x = .str z → z.length ≤ sizeLine) : m_is_name [.d x] π = some (.bool (dName x), π) := by
  unfold m_is_name g_is_name
  simp only [mOf, mOfZ, mOfR, asRt, entry, List.length_cons, List.length_nil, List.replicate, List.cons_append, List.nil_append, Nat.reduceAdd, Nat.reduceSub, fV, fVx, fC, fB, fBN, fU, fUN, fL, fIsi, fAndV, fOrV, fNotV, fTv, asB, asL, asT, fNotT, fAndT, fOrT, fIf, fIfN, fCh, fCl, fClN, aNil, aD, aN, aP, fNil, fCons, fTup, fLst, sNil, sSeq, sSet, sSetM, sRet, sRetN, sIf, sBrk, sCnt, sDrop, sFor, rSeq, sFrz, iL, iT, iS, iE, iZ, iR1, iR2, oNone, oSome, fSlA, fSlL, fPot, sPot, gPot, sPotN, List.getElem?_cons_zero, List.getElem?_cons_succ, List.set_cons_zero, List.set_cons_succ, Option.bind_some, Option.map_some, Option.bind_none, Option.map_none, List.all_cons, List.all_nil, Sl.dp, Bool.and_true, Bool.true_and, and_self, and_true, true_and, if_true, if_false, ite_true, ite_false, Bool.false_eq_true, reduceCtorEq, reduceIte, Bool.not_true, Bool.not_false, gEq_str, gEq_int, gAdd_int, le_line, Nat.reduceLeDiff, Nat.reduceEqDiff, ne_eq, not_false_eq_true, cast_2, cast_3, cast_4, cast_5, cast_1, cast_0, eq_self, decide_true, decide_false, isi_str]
  cases x with
  | str z =>
    have hl := h z rfl
    simp only [mOf, mOfZ, mOfR, asRt, entry, List.length_cons, List.length_nil, List.replicate, List.cons_append, List.nil_append, Nat.reduceAdd, Nat.reduceSub, fV, fVx, fC, fB, fBN, fU, fUN, fL, fIsi, fAndV, fOrV, fNotV, fTv, asB, asL, asT, fNotT, fAndT, fOrT, fIf, fIfN, fCh, fCl, fClN, aNil, aD, aN, aP, fNil, fCons, fTup, fLst, sNil, sSeq, sSet, sSetM, sRet, sRetN, sIf, sBrk, sCnt, sDrop, sFor, rSeq, sFrz, iL, iT, iS, iE, iZ, iR1, iR2, oNone, oSome, fSlA, fSlL, fPot, sPot, gPot, sPotN, List.getElem?_cons_zero, List.getElem?_cons_succ, List.set_cons_zero, List.set_cons_succ, Option.bind_some, Option.map_some, Option.bind_none, Option.map_none, List.all_cons, List.all_nil, Sl.dp, Bool.and_true, Bool.true_and, and_self, and_true, true_and, if_true, if_false, ite_true, ite_false, Bool.false_eq_true, reduceCtorEq, reduceIte, Bool.not_true, Bool.not_false, gEq_str, gEq_int, gAdd_int, le_line, Nat.reduceLeDiff, Nat.reduceEqDiff, ne_eq, not_false_eq_true, cast_2, cast_3, cast_4, cast_5, cast_1, cast_0, eq_self, decide_true, decide_false, dStr, gLen, hl, gLe, gCmp, gIx]
    by_cases h1 : (1 : Int) ≤ (z.length : Int)
    · by_cases h2 : (z.length : Int) ≤ 12
      · rw [strLen] at h1
        cases hz : z.cps.toList with
        | nil => rw [hz] at h1; simp at h1
        | cons c r =>
          rw [← strLen] at h1
          have h2' : z.length ≤ 12 := by omega
          simp only [h1, h2, decide_true, atI_0, hz, List.getElem?_cons_zero, Option.map_some, Option.bind_some, if_true, Bool.not_true, Bool.false_eq_true, if_false, gIn]
          cases hin : inS ⟨#[c]⟩ LET with
          | true =>
            simp only [mOf, mOfZ, mOfR, asRt, entry, List.length_cons, List.length_nil, List.replicate, List.cons_append, List.nil_append, Nat.reduceAdd, Nat.reduceSub, fV, fVx, fC, fB, fBN, fU, fUN, fL, fIsi, fAndV, fOrV, fNotV, fTv, asB, asL, asT, fNotT, fAndT, fOrT, fIf, fIfN, fCh, fCl, fClN, aNil, aD, aN, aP, fNil, fCons, fTup, fLst, sNil, sSeq, sSet, sSetM, sRet, sRetN, sIf, sBrk, sCnt, sDrop, sFor, rSeq, sFrz, iL, iT, iS, iE, iZ, iR1, iR2, oNone, oSome, fSlA, fSlL, fPot, sPot, gPot, sPotN, List.getElem?_cons_zero, List.getElem?_cons_succ, List.set_cons_zero, List.set_cons_succ, Option.bind_some, Option.map_some, Option.bind_none, Option.map_none, List.all_cons, List.all_nil, Sl.dp, Bool.and_true, Bool.true_and, and_self, and_true, true_and, if_true, if_false, ite_true, ite_false, Bool.false_eq_true, reduceCtorEq, reduceIte, Bool.not_true, Bool.not_false, gEq_str, gEq_int, gAdd_int, le_line, Nat.reduceLeDiff, Nat.reduceEqDiff, ne_eq, not_false_eq_true, cast_2, cast_3, cast_4, cast_5, cast_1, cast_0, eq_self, decide_true, decide_false]
            rw [fLc_map (ds := signs z) (π1 := π) (fun x => .bool (pS x))]
            · simp only [Option.map_some, Option.bind_some, gAll_map, dName, nameB, h2', hz, List.getElem?_cons_zero, hin, decide_true, Bool.true_and]
            · rfl
            · rw [signs_len]; exact hl
            · intro x hx
              unfold signs at hx
              obtain ⟨c, hc, rfl⟩ := List.mem_map.mp hx
              exact ⟨_, rfl, rfl, by simp only [mOf, mOfZ, mOfR, asRt, entry, List.length_cons, List.length_nil, List.replicate, List.cons_append, List.nil_append, Nat.reduceAdd, Nat.reduceSub, fV, fVx, fC, fB, fBN, fU, fUN, fL, fIsi, fAndV, fOrV, fNotV, fTv, asB, asL, asT, fNotT, fAndT, fOrT, fIf, fIfN, fCh, fCl, fClN, aNil, aD, aN, aP, fNil, fCons, fTup, fLst, sNil, sSeq, sSet, sSetM, sRet, sRetN, sIf, sBrk, sCnt, sDrop, sFor, rSeq, sFrz, iL, iT, iS, iE, iZ, iR1, iR2, oNone, oSome, fSlA, fSlL, fPot, sPot, gPot, sPotN, List.getElem?_cons_zero, List.getElem?_cons_succ, List.set_cons_zero, List.set_cons_succ, Option.bind_some, Option.map_some, Option.bind_none, Option.map_none, List.all_cons, List.all_nil, Sl.dp, Bool.and_true, Bool.true_and, and_self, and_true, true_and, if_true, if_false, ite_true, ite_false, Bool.false_eq_true, reduceCtorEq, reduceIte, Bool.not_true, Bool.not_false, gEq_str, gEq_int, gAdd_int, le_line, Nat.reduceLeDiff, Nat.reduceEqDiff, ne_eq, not_false_eq_true, cast_2, cast_3, cast_4, cast_5, cast_1, cast_0, eq_self, decide_true, decide_false, wipeE, gIn, pS]⟩
          | false => simp [dName, nameB, hz, hin]
      · have h2' : ¬ z.length ≤ 12 := by omega
        simp [h1, h2, dName, nameB, h2']
    · have h0 : z.cps.toList = [] := List.length_eq_zero_iff.mp (by rw [← strLen]; omega)
      simp [h1, dName, nameB, h0]
  | _ => simp [dStr, dName]
theorem e_law_is_name (x : PyData) (π : Pt) (h : ∀ z, x = .str z → z.length ≤ sizeLine ∧ PyData.strOk z = true) : m__law_is_name [.d x] π = some (.bool (dName x), π) := by
  unfold m__law_is_name g__law_is_name
  simp only [mOf, mOfZ, mOfR, asRt, entry, List.length_cons, List.length_nil, List.replicate, List.cons_append, List.nil_append, Nat.reduceAdd, Nat.reduceSub, fV, fVx, fC, fB, fBN, fU, fUN, fL, fIsi, fAndV, fOrV, fNotV, fTv, asB, asL, asT, fNotT, fAndT, fOrT, fIf, fIfN, fCh, fCl, fClN, aNil, aD, aN, aP, fNil, fCons, fTup, fLst, sNil, sSeq, sSet, sSetM, sRet, sRetN, sIf, sBrk, sCnt, sDrop, sFor, rSeq, sFrz, iL, iT, iS, iE, iZ, iR1, iR2, oNone, oSome, fSlA, fSlL, fPot, sPot, gPot, sPotN, List.getElem?_cons_zero, List.getElem?_cons_succ, List.set_cons_zero, List.set_cons_succ, Option.bind_some, Option.map_some, Option.bind_none, Option.map_none, List.all_cons, List.all_nil, Sl.dp, Bool.and_true, Bool.true_and, and_self, and_true, true_and, if_true, if_false, ite_true, ite_false, Bool.false_eq_true, reduceCtorEq, reduceIte, Bool.not_true, Bool.not_false, gEq_str, gEq_int, gAdd_int, le_line, Nat.reduceLeDiff, Nat.reduceEqDiff, ne_eq, not_false_eq_true, cast_2, cast_3, cast_4, cast_5, cast_1, cast_0, eq_self, decide_true, decide_false, isi_str]
  cases x with
  | str z =>
    obtain ⟨hl, hok⟩ := h z rfl
    simp only [mOf, mOfZ, mOfR, asRt, entry, List.length_cons, List.length_nil, List.replicate, List.cons_append, List.nil_append, Nat.reduceAdd, Nat.reduceSub, fV, fVx, fC, fB, fBN, fU, fUN, fL, fIsi, fAndV, fOrV, fNotV, fTv, asB, asL, asT, fNotT, fAndT, fOrT, fIf, fIfN, fCh, fCl, fClN, aNil, aD, aN, aP, fNil, fCons, fTup, fLst, sNil, sSeq, sSet, sSetM, sRet, sRetN, sIf, sBrk, sCnt, sDrop, sFor, rSeq, sFrz, iL, iT, iS, iE, iZ, iR1, iR2, oNone, oSome, fSlA, fSlL, fPot, sPot, gPot, sPotN, List.getElem?_cons_zero, List.getElem?_cons_succ, List.set_cons_zero, List.set_cons_succ, Option.bind_some, Option.map_some, Option.bind_none, Option.map_none, List.all_cons, List.all_nil, Sl.dp, Bool.and_true, Bool.true_and, and_self, and_true, true_and, if_true, if_false, ite_true, ite_false, Bool.false_eq_true, reduceCtorEq, reduceIte, Bool.not_true, Bool.not_false, gEq_str, gEq_int, gAdd_int, le_line, Nat.reduceLeDiff, Nat.reduceEqDiff, ne_eq, not_false_eq_true, cast_2, cast_3, cast_4, cast_5, cast_1, cast_0, eq_self, decide_true, decide_false, dStr, gLen, hl, gGt, gCmp, gIx]
    by_cases h2 : (12 : Int) < (z.length : Int)
    · have h2' : ¬ z.length ≤ 12 := by omega
      simp [h2, dName, nameB, h2']
    · have h2' : z.length ≤ 12 := by omega
      by_cases h3 : z = ("" : Str)
      · subst h3
        have e0 : ("" : Str).cps.toList = [] := rfl
        simp [h2, dName, nameB, e0]
      · cases hz : z.cps.toList with
        | nil =>
          refine absurd ?_ h3
          obtain ⟨⟨l⟩⟩ := z
          have e : l = [] := hz
          rw [e]
          rfl
        | cons c r =>
          simp only [h2, h3, decide_false, decide_true, atI_0, hz, List.getElem?_cons_zero, Option.map_some, Option.bind_some, if_true, Bool.not_true, Bool.false_eq_true, if_false, gIn]
          cases hin : inS ⟨#[c]⟩ LET with
          | true =>
            simp only [mOf, mOfZ, mOfR, asRt, entry, List.length_cons, List.length_nil, List.replicate, List.cons_append, List.nil_append, Nat.reduceAdd, Nat.reduceSub, fV, fVx, fC, fB, fBN, fU, fUN, fL, fIsi, fAndV, fOrV, fNotV, fTv, asB, asL, asT, fNotT, fAndT, fOrT, fIf, fIfN, fCh, fCl, fClN, aNil, aD, aN, aP, fNil, fCons, fTup, fLst, sNil, sSeq, sSet, sSetM, sRet, sRetN, sIf, sBrk, sCnt, sDrop, sFor, rSeq, sFrz, iL, iT, iS, iE, iZ, iR1, iR2, oNone, oSome, fSlA, fSlL, fPot, sPot, gPot, sPotN, List.getElem?_cons_zero, List.getElem?_cons_succ, List.set_cons_zero, List.set_cons_succ, Option.bind_some, Option.map_some, Option.bind_none, Option.map_none, List.all_cons, List.all_nil, Sl.dp, Bool.and_true, Bool.true_and, and_self, and_true, true_and, if_true, if_false, ite_true, ite_false, Bool.false_eq_true, reduceCtorEq, reduceIte, Bool.not_true, Bool.not_false, gEq_str, gEq_int, gAdd_int, le_line, Nat.reduceLeDiff, Nat.reduceEqDiff, ne_eq, not_false_eq_true, cast_2, cast_3, cast_4, cast_5, cast_1, cast_0, eq_self, decide_true, decide_false]
            rw [fLc_pure (ds := signs z) (π1 := π) (fun x => !pS x) (fun x => x)]
            · obtain ⟨q1, q2⟩ := canLay_signs ((signs z).filter fun x => !pS x) fun y hy => sign_ok hok y (List.mem_filter.mp hy).1
              simp only [mOf, mOfZ, mOfR, asRt, entry, List.length_cons, List.length_nil, List.replicate, List.cons_append, List.nil_append, Nat.reduceAdd, Nat.reduceSub, fV, fVx, fC, fB, fBN, fU, fUN, fL, fIsi, fAndV, fOrV, fNotV, fTv, asB, asL, asT, fNotT, fAndT, fOrT, fIf, fIfN, fCh, fCl, fClN, aNil, aD, aN, aP, fNil, fCons, fTup, fLst, sNil, sSeq, sSet, sSetM, sRet, sRetN, sIf, sBrk, sCnt, sDrop, sFor, rSeq, sFrz, iL, iT, iS, iE, iZ, iR1, iR2, oNone, oSome, fSlA, fSlL, fPot, sPot, gPot, sPotN, List.getElem?_cons_zero, List.getElem?_cons_succ, List.set_cons_zero, List.set_cons_succ, Option.bind_some, Option.map_some, Option.bind_none, Option.map_none, List.all_cons, List.all_nil, Sl.dp, Bool.and_true, Bool.true_and, and_self, and_true, true_and, if_true, if_false, ite_true, ite_false, Bool.false_eq_true, reduceCtorEq, reduceIte, Bool.not_true, Bool.not_false, gEq_str, gEq_int, gAdd_int, le_line, Nat.reduceLeDiff, Nat.reduceEqDiff, ne_eq, not_false_eq_true, cast_2, cast_3, cast_4, cast_5, cast_1, cast_0, eq_self, decide_true, decide_false, List.map_id']
              rw [gEq_nil q1 q2, filter_not_all]
              simp [dName, nameB, h2', hz, hin]
            · rfl
            · rw [signs_len]; exact hl
            · intro x hx
              unfold signs at hx
              obtain ⟨c, hc, rfl⟩ := List.mem_map.mp hx
              refine ⟨_, rfl, ?_, fun _ => rfl⟩
              simp only [mOf, mOfZ, mOfR, asRt, entry, List.length_cons, List.length_nil, List.replicate, List.cons_append, List.nil_append, Nat.reduceAdd, Nat.reduceSub, fV, fVx, fC, fB, fBN, fU, fUN, fL, fIsi, fAndV, fOrV, fNotV, fTv, asB, asL, asT, fNotT, fAndT, fOrT, fIf, fIfN, fCh, fCl, fClN, aNil, aD, aN, aP, fNil, fCons, fTup, fLst, sNil, sSeq, sSet, sSetM, sRet, sRetN, sIf, sBrk, sCnt, sDrop, sFor, rSeq, sFrz, iL, iT, iS, iE, iZ, iR1, iR2, oNone, oSome, fSlA, fSlL, fPot, sPot, gPot, sPotN, List.getElem?_cons_zero, List.getElem?_cons_succ, List.set_cons_zero, List.set_cons_succ, Option.bind_some, Option.map_some, Option.bind_none, Option.map_none, List.all_cons, List.all_nil, Sl.dp, Bool.and_true, Bool.true_and, and_self, and_true, true_and, if_true, if_false, ite_true, ite_false, Bool.false_eq_true, reduceCtorEq, reduceIte, Bool.not_true, Bool.not_false, gEq_str, gEq_int, gAdd_int, le_line, Nat.reduceLeDiff, Nat.reduceEqDiff, ne_eq, not_false_eq_true, cast_2, cast_3, cast_4, cast_5, cast_1, cast_0, eq_self, decide_true, decide_false, wipeE, gAdd, gIn, pS]
              rw [if_pos (by decide +kernel), sig_eq]
              rfl
          | false => simp [dName, nameB, hz, hin]
  | _ => simp [dStr, dName]

def emptyT : PyData → Bool
  | .tuple [] => true
  | _ => false
def dTask3 (p : Int) (a b c : PyData) : Bool := match a with
  | .str z => (decide (z = "") || nameB z) && (dPlaces p b && (!emptyT b && dPlaces p c))
  | _ => false
def dTask (p : Int) : PyData → Bool
  | .tuple [a, b, c] => dTask3 p a b c
  | _ => false
theorem dTask_len (p : Int) {xs : List PyData} (h : xs.length ≠ 3) : dTask p (.tuple xs) = false := by
  match xs, h with
  | [], _ => rfl
  | [_], _ => rfl
  | [_, _], _ => rfl
  | [_, _, _], h => exact absurd rfl h
  | _ :: _ :: _ :: _ :: _, _ => rfl
theorem three {α : Type} {xs : List α} (h : xs.length = 3) : ∃ a b c, xs = [a, b, c] := by
  match xs, h with
  | [a, b, c], _ => exact ⟨a, b, c, rfl⟩
structure TaskH (x : PyData) : Prop where
  name : ∀ a b c z, x = .tuple [a, b, c] → a = .str z → z.length ≤ sizeLine ∧ PyData.strOk z = true
  one : ∀ a b c xs, x = .tuple [a, b, c] → b = .tuple xs → xs.length < 63
  two : ∀ a b c xs, x = .tuple [a, b, c] → c = .tuple xs → xs.length < 63
theorem lt_line {n : Nat} (h : n < 63) : n ≤ sizeLine := by rw [sizeLine_eq]; omega
theorem places_tup {p : Int} {b : PyData} (h : dPlaces p b = true) : ∃ ns : List Int, b = .tuple (ns.map PyData.int) := by
  cases b with
  | tuple xs =>
    simp only [dPlaces, Bool.and_eq_true] at h
    obtain ⟨ns, e, _⟩ := allIn_ints h.1
    exact ⟨ns, by rw [e]⟩
  | _ => simp [dPlaces] at h
theorem gEqT_nil (neg : Bool) (ns : List Int) : gEq neg (.tuple (ns.map PyData.int)) (.tuple []) = some (.bool (if neg = true then !emptyT (.tuple (ns.map PyData.int)) else emptyT (.tuple (ns.map PyData.int)))) := by
  have s2 : SeqAt.shaped (.tuple []) = true := by decide +kernel
  have e : PyData.eqv (.tuple (ns.map PyData.int)) (.tuple []) = emptyT (.tuple (ns.map PyData.int)) := by
    cases ns <;> simp [PyData.eqv, PyData.eqvAll, emptyT]
  simp only [gEq, shapedT_ints, s2, and_self, if_true, e]
theorem gEq_empty {p : Int} {b : PyData} (h : dPlaces p b = true) : gEq true b (.tuple []) = some (.bool (!emptyT b)) := by
  obtain ⟨ns, rfl⟩ := places_tup h
  rw [gEqT_nil]
  rfl
theorem gLen_places {p : Int} {b : PyData} (h : dPlaces p b = true) : ∃ n : Nat, gLen b = some (.int n) ∧ decide ((0 : Int) < n) = !emptyT b := by
  obtain ⟨ns, rfl⟩ := places_tup h
  refine ⟨_, rfl, ?_⟩
  cases ns <;> simp [emptyT]
theorem e_is_task (x : PyData) (p : Int) (π : Pt) (h : TaskH x) : m_is_task_of [.d x, .d (.int p)] π = some (.bool (dTask p x), π) := by
  unfold m_is_task_of g_is_task_of
  cases x with
  | tuple xs =>
    by_cases hlen : xs.length = 3
    · obtain ⟨a, b, c, rfl⟩ := three hlen
      have h3 : (([a, b, c] : List PyData).length : Int) = 3 := rfl
      simp only [dTask, dTask3]
      cases a with
      | str z =>
        obtain ⟨hz, _⟩ := h.name _ _ _ z rfl rfl
        have hb := fun xs e => lt_line (h.one _ _ _ xs rfl e)
        have hc := fun xs e => lt_line (h.two _ _ _ xs rfl e)
        have hn : ∀ w, (PyData.str z) = .str w → w.length ≤ sizeLine := fun w e => by cases e; exact hz
        have e1 := fun π => e_is_name (.str z) π hn
        have e2 := fun π => e_are_places b p π hb
        have e3 := fun π => e_are_places c p π hc
        cases h0 : decide (z = "") <;> cases hnm : nameB z <;> cases hpb : dPlaces p b
        all_goals first
          | (have e4 := gEq_empty hpb
             cases h4 : emptyT b <;> simp only [mOf, mOfZ, mOfR, asRt, entry, List.length_cons, List.length_nil, List.replicate, List.cons_append, List.nil_append, Nat.reduceAdd, Nat.reduceSub, fV, fVx, fC, fB, fBN, fU, fUN, fL, fIsi, fAndV, fOrV, fNotV, fTv, asB, asL, asT, fNotT, fAndT, fOrT, fIf, fIfN, fCh, fCl, fClN, aNil, aD, aN, aP, fNil, fCons, fTup, fLst, sNil, sSeq, sSet, sSetM, sRet, sRetN, sIf, sBrk, sCnt, sDrop, sFor, rSeq, sFrz, iL, iT, iS, iE, iZ, iR1, iR2, oNone, oSome, fSlA, fSlL, fPot, sPot, gPot, sPotN, List.getElem?_cons_zero, List.getElem?_cons_succ, List.set_cons_zero, List.set_cons_succ, Option.bind_some, Option.map_some, Option.bind_none, Option.map_none, List.all_cons, List.all_nil, Sl.dp, Bool.and_true, Bool.true_and, and_self, and_true, true_and, if_true, if_false, ite_true, ite_false, Bool.false_eq_true, reduceCtorEq, reduceIte, Bool.not_true, Bool.not_false, gEq_str, gEq_int, gAdd_int, le_line, Nat.reduceLeDiff, Nat.reduceEqDiff, ne_eq, not_false_eq_true, cast_2, cast_3, cast_4, cast_5, cast_1, cast_0, eq_self, decide_true, decide_false, e_is_tuple, dTupN, h3, decide_true, gIx_tup, atI_0, atI_1, atI_2, isi_str, dStr, e1, e2, e3, e4, dName, h0, hnm, hpb, h4, Bool.or_false, Bool.or_true, Bool.false_and, Bool.false_or])
          | simp only [mOf, mOfZ, mOfR, asRt, entry, List.length_cons, List.length_nil, List.replicate, List.cons_append, List.nil_append, Nat.reduceAdd, Nat.reduceSub, fV, fVx, fC, fB, fBN, fU, fUN, fL, fIsi, fAndV, fOrV, fNotV, fTv, asB, asL, asT, fNotT, fAndT, fOrT, fIf, fIfN, fCh, fCl, fClN, aNil, aD, aN, aP, fNil, fCons, fTup, fLst, sNil, sSeq, sSet, sSetM, sRet, sRetN, sIf, sBrk, sCnt, sDrop, sFor, rSeq, sFrz, iL, iT, iS, iE, iZ, iR1, iR2, oNone, oSome, fSlA, fSlL, fPot, sPot, gPot, sPotN, List.getElem?_cons_zero, List.getElem?_cons_succ, List.set_cons_zero, List.set_cons_succ, Option.bind_some, Option.map_some, Option.bind_none, Option.map_none, List.all_cons, List.all_nil, Sl.dp, Bool.and_true, Bool.true_and, and_self, and_true, true_and, if_true, if_false, ite_true, ite_false, Bool.false_eq_true, reduceCtorEq, reduceIte, Bool.not_true, Bool.not_false, gEq_str, gEq_int, gAdd_int, le_line, Nat.reduceLeDiff, Nat.reduceEqDiff, ne_eq, not_false_eq_true, cast_2, cast_3, cast_4, cast_5, cast_1, cast_0, eq_self, decide_true, decide_false, e_is_tuple, dTupN, h3, decide_true, gIx_tup, atI_0, atI_1, atI_2, isi_str, dStr, e1, e2, e3, dName, h0, hnm, hpb, Bool.or_false, Bool.or_true, Bool.false_and, Bool.false_or]
      | _ => simp only [mOf, mOfZ, mOfR, asRt, entry, List.length_cons, List.length_nil, List.replicate, List.cons_append, List.nil_append, Nat.reduceAdd, Nat.reduceSub, fV, fVx, fC, fB, fBN, fU, fUN, fL, fIsi, fAndV, fOrV, fNotV, fTv, asB, asL, asT, fNotT, fAndT, fOrT, fIf, fIfN, fCh, fCl, fClN, aNil, aD, aN, aP, fNil, fCons, fTup, fLst, sNil, sSeq, sSet, sSetM, sRet, sRetN, sIf, sBrk, sCnt, sDrop, sFor, rSeq, sFrz, iL, iT, iS, iE, iZ, iR1, iR2, oNone, oSome, fSlA, fSlL, fPot, sPot, gPot, sPotN, List.getElem?_cons_zero, List.getElem?_cons_succ, List.set_cons_zero, List.set_cons_succ, Option.bind_some, Option.map_some, Option.bind_none, Option.map_none, List.all_cons, List.all_nil, Sl.dp, Bool.and_true, Bool.true_and, and_self, and_true, true_and, if_true, if_false, ite_true, ite_false, Bool.false_eq_true, reduceCtorEq, reduceIte, Bool.not_true, Bool.not_false, gEq_str, gEq_int, gAdd_int, le_line, Nat.reduceLeDiff, Nat.reduceEqDiff, ne_eq, not_false_eq_true, cast_2, cast_3, cast_4, cast_5, cast_1, cast_0, eq_self, decide_true, decide_false, e_is_tuple, dTupN, h3, decide_true, gIx_tup, atI_0, isi_str, dStr]
    · have e : ¬ ((xs.length : Int) = 3) := by omega
      rw [dTask_len p hlen]
      simp only [mOf, mOfZ, mOfR, asRt, entry, List.length_cons, List.length_nil, List.replicate, List.cons_append, List.nil_append, Nat.reduceAdd, Nat.reduceSub, fV, fVx, fC, fB, fBN, fU, fUN, fL, fIsi, fAndV, fOrV, fNotV, fTv, asB, asL, asT, fNotT, fAndT, fOrT, fIf, fIfN, fCh, fCl, fClN, aNil, aD, aN, aP, fNil, fCons, fTup, fLst, sNil, sSeq, sSet, sSetM, sRet, sRetN, sIf, sBrk, sCnt, sDrop, sFor, rSeq, sFrz, iL, iT, iS, iE, iZ, iR1, iR2, oNone, oSome, fSlA, fSlL, fPot, sPot, gPot, sPotN, List.getElem?_cons_zero, List.getElem?_cons_succ, List.set_cons_zero, List.set_cons_succ, Option.bind_some, Option.map_some, Option.bind_none, Option.map_none, List.all_cons, List.all_nil, Sl.dp, Bool.and_true, Bool.true_and, and_self, and_true, true_and, if_true, if_false, ite_true, ite_false, Bool.false_eq_true, reduceCtorEq, reduceIte, Bool.not_true, Bool.not_false, gEq_str, gEq_int, gAdd_int, le_line, Nat.reduceLeDiff, Nat.reduceEqDiff, ne_eq, not_false_eq_true, cast_2, cast_3, cast_4, cast_5, cast_1, cast_0, eq_self, decide_true, decide_false, e_is_tuple, dTupN, e, decide_false]
  | _ => simp only [mOf, mOfZ, mOfR, asRt, entry, List.length_cons, List.length_nil, List.replicate, List.cons_append, List.nil_append, Nat.reduceAdd, Nat.reduceSub, fV, fVx, fC, fB, fBN, fU, fUN, fL, fIsi, fAndV, fOrV, fNotV, fTv, asB, asL, asT, fNotT, fAndT, fOrT, fIf, fIfN, fCh, fCl, fClN, aNil, aD, aN, aP, fNil, fCons, fTup, fLst, sNil, sSeq, sSet, sSetM, sRet, sRetN, sIf, sBrk, sCnt, sDrop, sFor, rSeq, sFrz, iL, iT, iS, iE, iZ, iR1, iR2, oNone, oSome, fSlA, fSlL, fPot, sPot, gPot, sPotN, List.getElem?_cons_zero, List.getElem?_cons_succ, List.set_cons_zero, List.set_cons_succ, Option.bind_some, Option.map_some, Option.bind_none, Option.map_none, List.all_cons, List.all_nil, Sl.dp, Bool.and_true, Bool.true_and, and_self, and_true, true_and, if_true, if_false, ite_true, ite_false, Bool.false_eq_true, reduceCtorEq, reduceIte, Bool.not_true, Bool.not_false, gEq_str, gEq_int, gAdd_int, le_line, Nat.reduceLeDiff, Nat.reduceEqDiff, ne_eq, not_false_eq_true, cast_2, cast_3, cast_4, cast_5, cast_1, cast_0, eq_self, decide_true, decide_false, e_is_tuple, dTupN, dTask]
theorem e_law_is_task (x : PyData) (p : Int) (π : Pt) (h : TaskH x) : m__law_is_task [.d x, .d (.int p)] π = some (.bool (dTask p x), π) := by
  unfold m__law_is_task g__law_is_task
  cases x with
  | tuple xs =>
    by_cases hlen : xs.length = 3
    · obtain ⟨a, b, c, rfl⟩ := three hlen
      have h3 : (([a, b, c] : List PyData).length : Int) = 3 := rfl
      simp only [dTask, dTask3]
      cases a with
      | str z =>
        have hz := h.name _ _ _ z rfl rfl
        have hb := fun xs e => h.one _ _ _ xs rfl e
        have hc := fun xs e => h.two _ _ _ xs rfl e
        have hn : ∀ w, (PyData.str z) = .str w → w.length ≤ sizeLine ∧ PyData.strOk w = true := fun w e => by cases e; exact hz
        have e1 := fun π => e_law_is_name (.str z) π hn
        have e2 := fun π => e_law_are_places b p π hb
        have e3 := fun π => e_law_are_places c p π hc
        cases h0 : decide (z = "") <;> cases hnm : nameB z <;> cases hpb : dPlaces p b
        all_goals first
          | (obtain ⟨n, e4, e5⟩ := gLen_places hpb
             cases h4 : emptyT b <;> simp only [mOf, mOfZ, mOfR, asRt, entry, List.length_cons, List.length_nil, List.replicate, List.cons_append, List.nil_append, Nat.reduceAdd, Nat.reduceSub, fV, fVx, fC, fB, fBN, fU, fUN, fL, fIsi, fAndV, fOrV, fNotV, fTv, asB, asL, asT, fNotT, fAndT, fOrT, fIf, fIfN, fCh, fCl, fClN, aNil, aD, aN, aP, fNil, fCons, fTup, fLst, sNil, sSeq, sSet, sSetM, sRet, sRetN, sIf, sBrk, sCnt, sDrop, sFor, rSeq, sFrz, iL, iT, iS, iE, iZ, iR1, iR2, oNone, oSome, fSlA, fSlL, fPot, sPot, gPot, sPotN, List.getElem?_cons_zero, List.getElem?_cons_succ, List.set_cons_zero, List.set_cons_succ, Option.bind_some, Option.map_some, Option.bind_none, Option.map_none, List.all_cons, List.all_nil, Sl.dp, Bool.and_true, Bool.true_and, and_self, and_true, true_and, if_true, if_false, ite_true, ite_false, Bool.false_eq_true, reduceCtorEq, reduceIte, Bool.not_true, Bool.not_false, gEq_str, gEq_int, gAdd_int, le_line, Nat.reduceLeDiff, Nat.reduceEqDiff, ne_eq, not_false_eq_true, cast_2, cast_3, cast_4, cast_5, cast_1, cast_0, eq_self, decide_true, decide_false, isi_tuple, dTup, gLen_tup, h3, decide_true, gIx_tup, atI_0, atI_1, atI_2, isi_str, dStr, e1, e2, e3, e4, gGt, gCmp, e5, dName, h0, hnm, hpb, h4, Bool.or_false, Bool.or_true, Bool.false_and, Bool.false_or])
          | simp only [mOf, mOfZ, mOfR, asRt, entry, List.length_cons, List.length_nil, List.replicate, List.cons_append, List.nil_append, Nat.reduceAdd, Nat.reduceSub, fV, fVx, fC, fB, fBN, fU, fUN, fL, fIsi, fAndV, fOrV, fNotV, fTv, asB, asL, asT, fNotT, fAndT, fOrT, fIf, fIfN, fCh, fCl, fClN, aNil, aD, aN, aP, fNil, fCons, fTup, fLst, sNil, sSeq, sSet, sSetM, sRet, sRetN, sIf, sBrk, sCnt, sDrop, sFor, rSeq, sFrz, iL, iT, iS, iE, iZ, iR1, iR2, oNone, oSome, fSlA, fSlL, fPot, sPot, gPot, sPotN, List.getElem?_cons_zero, List.getElem?_cons_succ, List.set_cons_zero, List.set_cons_succ, Option.bind_some, Option.map_some, Option.bind_none, Option.map_none, List.all_cons, List.all_nil, Sl.dp, Bool.and_true, Bool.true_and, and_self, and_true, true_and, if_true, if_false, ite_true, ite_false, Bool.false_eq_true, reduceCtorEq, reduceIte, Bool.not_true, Bool.not_false, gEq_str, gEq_int, gAdd_int, le_line, Nat.reduceLeDiff, Nat.reduceEqDiff, ne_eq, not_false_eq_true, cast_2, cast_3, cast_4, cast_5, cast_1, cast_0, eq_self, decide_true, decide_false, isi_tuple, dTup, gLen_tup, h3, decide_true, gIx_tup, atI_0, atI_1, atI_2, isi_str, dStr, e1, e2, e3, dName, h0, hnm, hpb, Bool.or_false, Bool.or_true, Bool.false_and, Bool.false_or]
      | _ => simp only [mOf, mOfZ, mOfR, asRt, entry, List.length_cons, List.length_nil, List.replicate, List.cons_append, List.nil_append, Nat.reduceAdd, Nat.reduceSub, fV, fVx, fC, fB, fBN, fU, fUN, fL, fIsi, fAndV, fOrV, fNotV, fTv, asB, asL, asT, fNotT, fAndT, fOrT, fIf, fIfN, fCh, fCl, fClN, aNil, aD, aN, aP, fNil, fCons, fTup, fLst, sNil, sSeq, sSet, sSetM, sRet, sRetN, sIf, sBrk, sCnt, sDrop, sFor, rSeq, sFrz, iL, iT, iS, iE, iZ, iR1, iR2, oNone, oSome, fSlA, fSlL, fPot, sPot, gPot, sPotN, List.getElem?_cons_zero, List.getElem?_cons_succ, List.set_cons_zero, List.set_cons_succ, Option.bind_some, Option.map_some, Option.bind_none, Option.map_none, List.all_cons, List.all_nil, Sl.dp, Bool.and_true, Bool.true_and, and_self, and_true, true_and, if_true, if_false, ite_true, ite_false, Bool.false_eq_true, reduceCtorEq, reduceIte, Bool.not_true, Bool.not_false, gEq_str, gEq_int, gAdd_int, le_line, Nat.reduceLeDiff, Nat.reduceEqDiff, ne_eq, not_false_eq_true, cast_2, cast_3, cast_4, cast_5, cast_1, cast_0, eq_self, decide_true, decide_false, isi_tuple, dTup, gLen_tup, h3, decide_true, gIx_tup, atI_0, isi_str, dStr]
    · have e : ¬ ((xs.length : Int) = 3) := by omega
      rw [dTask_len p hlen]
      simp only [mOf, mOfZ, mOfR, asRt, entry, List.length_cons, List.length_nil, List.replicate, List.cons_append, List.nil_append, Nat.reduceAdd, Nat.reduceSub, fV, fVx, fC, fB, fBN, fU, fUN, fL, fIsi, fAndV, fOrV, fNotV, fTv, asB, asL, asT, fNotT, fAndT, fOrT, fIf, fIfN, fCh, fCl, fClN, aNil, aD, aN, aP, fNil, fCons, fTup, fLst, sNil, sSeq, sSet, sSetM, sRet, sRetN, sIf, sBrk, sCnt, sDrop, sFor, rSeq, sFrz, iL, iT, iS, iE, iZ, iR1, iR2, oNone, oSome, fSlA, fSlL, fPot, sPot, gPot, sPotN, List.getElem?_cons_zero, List.getElem?_cons_succ, List.set_cons_zero, List.set_cons_succ, Option.bind_some, Option.map_some, Option.bind_none, Option.map_none, List.all_cons, List.all_nil, Sl.dp, Bool.and_true, Bool.true_and, and_self, and_true, true_and, if_true, if_false, ite_true, ite_false, Bool.false_eq_true, reduceCtorEq, reduceIte, Bool.not_true, Bool.not_false, gEq_str, gEq_int, gAdd_int, le_line, Nat.reduceLeDiff, Nat.reduceEqDiff, ne_eq, not_false_eq_true, cast_2, cast_3, cast_4, cast_5, cast_1, cast_0, eq_self, decide_true, decide_false, isi_tuple, dTup, gLen_tup, e, decide_false]
  | _ => simp only [mOf, mOfZ, mOfR, asRt, entry, List.length_cons, List.length_nil, List.replicate, List.cons_append, List.nil_append, Nat.reduceAdd, Nat.reduceSub, fV, fVx, fC, fB, fBN, fU, fUN, fL, fIsi, fAndV, fOrV, fNotV, fTv, asB, asL, asT, fNotT, fAndT, fOrT, fIf, fIfN, fCh, fCl, fClN, aNil, aD, aN, aP, fNil, fCons, fTup, fLst, sNil, sSeq, sSet, sSetM, sRet, sRetN, sIf, sBrk, sCnt, sDrop, sFor, rSeq, sFrz, iL, iT, iS, iE, iZ, iR1, iR2, oNone, oSome, fSlA, fSlL, fPot, sPot, gPot, sPotN, List.getElem?_cons_zero, List.getElem?_cons_succ, List.set_cons_zero, List.set_cons_succ, Option.bind_some, Option.map_some, Option.bind_none, Option.map_none, List.all_cons, List.all_nil, Sl.dp, Bool.and_true, Bool.true_and, and_self, and_true, true_and, if_true, if_false, ite_true, ite_false, Bool.false_eq_true, reduceCtorEq, reduceIte, Bool.not_true, Bool.not_false, gEq_str, gEq_int, gAdd_int, le_line, Nat.reduceLeDiff, Nat.reduceEqDiff, ne_eq, not_false_eq_true, cast_2, cast_3, cast_4, cast_5, cast_1, cast_0, eq_self, decide_true, decide_false, isi_tuple, dTup, dTask]
end Law10

set_option maxHeartbeats 2000000
namespace Law10
open PySem DL
set_option autoImplicit false
def wordN (w : Str) : PyData := .tuple [.str w, .none]
def okT (n : Int) : PyData → Bool
  | .tuple [_, y] => dTask n y
  | _ => false
def ixT : PyData → PyData
  | .tuple [i, _] => i
  | _ => .none
def flaw4 (n : Int) (ts : List PyData) (f l : PyData) : PyData := match (numb ts).find? (fun x => !okT n x) with
  | some x => .tuple [.str "task", ixT x]
  | none => if dStand n f = true then (if dStand n l = true then .none else wordN "last") else wordN "first"
def flaw2 (p t f l : PyData) : PyData := match p with
  | .int n => if dIn 1 16 (.int n) = true then (match t with
    | .tuple ts => if dIn 1 24 (.int ts.length) = true then flaw4 n ts f l else wordN "tasks"
    | _ => wordN "tasks") else wordN "places"
  | _ => wordN "places"
def flaw5 (a p t f l : PyData) : PyData := match a with
  | .str w => if decide (w = "sheet") = true then flaw2 p t f l else wordN "form"
  | _ => wordN "form"
def flawS : PyData → PyData
  | .tuple [a, p, t, f, l] => flaw5 a p t f l
  | _ => wordN "form"
theorem flawS_len {xs : List PyData} (h : xs.length ≠ 5) : flawS (.tuple xs) = wordN "form" := by
  match xs, h with
  | [], _ => rfl
  | [_], _ => rfl
  | [_, _], _ => rfl
  | [_, _, _], _ => rfl
  | [_, _, _, _], _ => rfl
  | [_, _, _, _, _], h => exact absurd rfl h
  | _ :: _ :: _ :: _ :: _ :: _ :: _, _ => rfl
theorem five {α : Type} {xs : List α} (h : xs.length = 5) : ∃ a b c d e, xs = [a, b, c, d, e] := by
  match xs, h with
  | [a, b, c, d, e], _ => exact ⟨a, b, c, d, e, rfl⟩
structure SheetH (v : PyData) : Prop where
  tasks : ∀ a p ts f l, v = .tuple [a, p, .tuple ts, f, l] → ∀ t ∈ ts, TaskH t
  fst : ∀ a p t xs l, v = .tuple [a, p, t, .tuple xs, l] → xs.length ≤ sizeLine
  lst : ∀ a p t f xs, v = .tuple [a, p, t, f, .tuple xs] → xs.length ≤ sizeLine
theorem e_flaw_of (v : PyData) (π : Pt) (h : SheetH v) : m_flaw_of [.d v] π = some (flawS v, π) := by
  unfold m_flaw_of g_flaw_of
  cases v with
  | tuple xs =>
    by_cases hlen : xs.length = 5
    · obtain ⟨a, p, t, f, l, rfl⟩ := five hlen
      have h3 : (([a, p, t, f, l] : List PyData).length : Int) = 5 := rfl
      simp only [flawS, flaw5]
      cases a with
      | str w =>
        cases hw : decide (w = "sheet") with
        | false => simp only [mOf, mOfZ, mOfR, asRt, entry, List.length_cons, List.length_nil, List.replicate, List.cons_append, List.nil_append, Nat.reduceAdd, Nat.reduceSub, fV, fVx, fC, fB, fBN, fU, fUN, fL, fIsi, fAndV, fOrV, fNotV, fTv, asB, asL, asT, fNotT, fAndT, fOrT, fIf, fIfN, fCh, fCl, fClN, aNil, aD, aN, aP, fNil, fCons, fTup, fLst, sNil, sSeq, sSet, sSetM, sRet, sRetN, sIf, sBrk, sCnt, sDrop, sFor, rSeq, sFrz, iL, iT, iS, iE, iZ, iR1, iR2, oNone, oSome, fSlA, fSlL, fPot, sPot, gPot, sPotN, List.getElem?_cons_zero, List.getElem?_cons_succ, List.set_cons_zero, List.set_cons_succ, Option.bind_some, Option.map_some, Option.bind_none, Option.map_none, List.all_cons, List.all_nil, Sl.dp, Bool.and_true, Bool.true_and, and_self, and_true, true_and, if_true, if_false, ite_true, ite_false, Bool.false_eq_true, reduceCtorEq, reduceIte, Bool.not_true, Bool.not_false, gEq_str, gEq_int, gAdd_int, le_line, Nat.reduceLeDiff, Nat.reduceEqDiff, ne_eq, not_false_eq_true, cast_2, cast_3, cast_4, cast_5, cast_1, cast_0, eq_self, decide_true, decide_false, e_is_tuple, dTupN, h3, gIx_tup, atI_0, isi_str, dStr, hw, wordN]
        | true =>
          cases p with
          | int n =>
            cases hn : dIn 1 16 (.int n) with
            | false => simp only [mOf, mOfZ, mOfR, asRt, entry, List.length_cons, List.length_nil, List.replicate, List.cons_append, List.nil_append, Nat.reduceAdd, Nat.reduceSub, fV, fVx, fC, fB, fBN, fU, fUN, fL, fIsi, fAndV, fOrV, fNotV, fTv, asB, asL, asT, fNotT, fAndT, fOrT, fIf, fIfN, fCh, fCl, fClN, aNil, aD, aN, aP, fNil, fCons, fTup, fLst, sNil, sSeq, sSet, sSetM, sRet, sRetN, sIf, sBrk, sCnt, sDrop, sFor, rSeq, sFrz, iL, iT, iS, iE, iZ, iR1, iR2, oNone, oSome, fSlA, fSlL, fPot, sPot, gPot, sPotN, List.getElem?_cons_zero, List.getElem?_cons_succ, List.set_cons_zero, List.set_cons_succ, Option.bind_some, Option.map_some, Option.bind_none, Option.map_none, List.all_cons, List.all_nil, Sl.dp, Bool.and_true, Bool.true_and, and_self, and_true, true_and, if_true, if_false, ite_true, ite_false, Bool.false_eq_true, reduceCtorEq, reduceIte, Bool.not_true, Bool.not_false, gEq_str, gEq_int, gAdd_int, le_line, Nat.reduceLeDiff, Nat.reduceEqDiff, ne_eq, not_false_eq_true, cast_2, cast_3, cast_4, cast_5, cast_1, cast_0, eq_self, decide_true, decide_false, e_is_tuple, dTupN, h3, gIx_tup, atI_0, atI_1, isi_str, dStr, hw, wordN, e_is_within, hn, flaw2]
            | true =>
              cases t with
              | tuple ts =>
                cases ht : dIn 1 24 (.int ts.length) with
                | false =>
                  have e : (decide ((1 : Int) ≤ ts.length) && decide ((ts.length : Int) ≤ 24)) = false := ht
                  cases h1 : decide ((1 : Int) ≤ ts.length) with
                  | false => simp only [mOf, mOfZ, mOfR, asRt, entry, List.length_cons, List.length_nil, List.replicate, List.cons_append, List.nil_append, Nat.reduceAdd, Nat.reduceSub, fV, fVx, fC, fB, fBN, fU, fUN, fL, fIsi, fAndV, fOrV, fNotV, fTv, asB, asL, asT, fNotT, fAndT, fOrT, fIf, fIfN, fCh, fCl, fClN, aNil, aD, aN, aP, fNil, fCons, fTup, fLst, sNil, sSeq, sSet, sSetM, sRet, sRetN, sIf, sBrk, sCnt, sDrop, sFor, rSeq, sFrz, iL, iT, iS, iE, iZ, iR1, iR2, oNone, oSome, fSlA, fSlL, fPot, sPot, gPot, sPotN, List.getElem?_cons_zero, List.getElem?_cons_succ, List.set_cons_zero, List.set_cons_succ, Option.bind_some, Option.map_some, Option.bind_none, Option.map_none, List.all_cons, List.all_nil, Sl.dp, Bool.and_true, Bool.true_and, and_self, and_true, true_and, if_true, if_false, ite_true, ite_false, Bool.false_eq_true, reduceCtorEq, reduceIte, Bool.not_true, Bool.not_false, gEq_str, gEq_int, gAdd_int, le_line, Nat.reduceLeDiff, Nat.reduceEqDiff, ne_eq, not_false_eq_true, cast_2, cast_3, cast_4, cast_5, cast_1, cast_0, eq_self, decide_true, decide_false, e_is_tuple, dTupN, h3, gIx_tup, atI_0, atI_1, atI_2, isi_str, isi_tuple, dTup, dStr, hw, wordN, e_is_within, hn, flaw2, gLen_tup, gLe, gCmp, ht, h1]
                  | true =>
                    rw [h1] at e
                    have h2 : decide ((ts.length : Int) ≤ 24) = false := e
                    simp only [mOf, mOfZ, mOfR, asRt, entry, List.length_cons, List.length_nil, List.replicate, List.cons_append, List.nil_append, Nat.reduceAdd, Nat.reduceSub, fV, fVx, fC, fB, fBN, fU, fUN, fL, fIsi, fAndV, fOrV, fNotV, fTv, asB, asL, asT, fNotT, fAndT, fOrT, fIf, fIfN, fCh, fCl, fClN, aNil, aD, aN, aP, fNil, fCons, fTup, fLst, sNil, sSeq, sSet, sSetM, sRet, sRetN, sIf, sBrk, sCnt, sDrop, sFor, rSeq, sFrz, iL, iT, iS, iE, iZ, iR1, iR2, oNone, oSome, fSlA, fSlL, fPot, sPot, gPot, sPotN, List.getElem?_cons_zero, List.getElem?_cons_succ, List.set_cons_zero, List.set_cons_succ, Option.bind_some, Option.map_some, Option.bind_none, Option.map_none, List.all_cons, List.all_nil, Sl.dp, Bool.and_true, Bool.true_and, and_self, and_true, true_and, if_true, if_false, ite_true, ite_false, Bool.false_eq_true, reduceCtorEq, reduceIte, Bool.not_true, Bool.not_false, gEq_str, gEq_int, gAdd_int, le_line, Nat.reduceLeDiff, Nat.reduceEqDiff, ne_eq, not_false_eq_true, cast_2, cast_3, cast_4, cast_5, cast_1, cast_0, eq_self, decide_true, decide_false, e_is_tuple, dTupN, h3, gIx_tup, atI_0, atI_1, atI_2, isi_str, isi_tuple, dTup, dStr, hw, wordN, e_is_within, hn, flaw2, gLen_tup, gLe, gCmp, ht, h1, h2]
                | true =>
                  have e : (decide ((1 : Int) ≤ ts.length) && decide ((ts.length : Int) ≤ 24)) = true := ht
                  rw [Bool.and_eq_true] at e
                  obtain ⟨h1, h2⟩ := e
                  have e3 := fun π => e_is_standing_of f n π fun xs e => h.fst _ _ _ xs _ (by rw [e])
                  have e4 := fun π => e_is_standing_of l n π fun xs e => h.lst _ _ _ _ xs (by rw [e])
                  simp only [mOf, mOfZ, mOfR, asRt, entry, List.length_cons, List.length_nil, List.replicate, List.cons_append, List.nil_append, Nat.reduceAdd, Nat.reduceSub, fV, fVx, fC, fB, fBN, fU, fUN, fL, fIsi, fAndV, fOrV, fNotV, fTv, asB, asL, asT, fNotT, fAndT, fOrT, fIf, fIfN, fCh, fCl, fClN, aNil, aD, aN, aP, fNil, fCons, fTup, fLst, sNil, sSeq, sSet, sSetM, sRet, sRetN, sIf, sBrk, sCnt, sDrop, sFor, rSeq, sFrz, iL, iT, iS, iE, iZ, iR1, iR2, oNone, oSome, fSlA, fSlL, fPot, sPot, gPot, sPotN, List.getElem?_cons_zero, List.getElem?_cons_succ, List.set_cons_zero, List.set_cons_succ, Option.bind_some, Option.map_some, Option.bind_none, Option.map_none, List.all_cons, List.all_nil, Sl.dp, Bool.and_true, Bool.true_and, and_self, and_true, true_and, if_true, if_false, ite_true, ite_false, Bool.false_eq_true, reduceCtorEq, reduceIte, Bool.not_true, Bool.not_false, gEq_str, gEq_int, gAdd_int, le_line, Nat.reduceLeDiff, Nat.reduceEqDiff, ne_eq, not_false_eq_true, cast_2, cast_3, cast_4, cast_5, cast_1, cast_0, eq_self, decide_true, decide_false, e_is_tuple, dTupN, h3, gIx_tup, atI_0, atI_1, atI_2, isi_str, isi_tuple, dTup, dStr, hw, wordN, e_is_within, hn, flaw2, gLen_tup, gLe, gCmp, ht, h1, h2]
                  have key := forM_first (t := tTupG (tsCons (tName 1) (tsCons (tName 2) tsNil)) 2) (g := sIf (fNotT (fTv (fCl 2 m_is_task_of (aD (fV 2) (aD (fB gIx (fVx 0) (fC (.int 1))) aNil))))) (sRet (fTup (fCons (fC (.str "task")) (fCons (fV 1) fNil)))) sNil) (π := π)
                    (fun ρ => ∃ s1 s2, ρ = [.d (.tuple [.str w, .int n, .tuple ts, f, l]), s1, s2, .e, .e]) (okT n) (fun x => .tuple [.str "task", ixT x]) (numb ts) _ ⟨.e, .e, rfl⟩ (by
                      rintro x hx ρ ⟨s1, s2, rfl⟩
                      obtain ⟨i, y, rfl, hy, _⟩ := numb_mem hx
                      have ht := h.tasks _ _ _ _ _ rfl y hy
                      have e5 := fun π => e_is_task y n π ht
                      refine ⟨[.d (.tuple [.str w, .int n, .tuple ts, f, l]), .d (.int i), .d y, .e, .e], ?_, fun ok => ⟨_, ?_, .d (.int i), .d y, rfl⟩, fun ok => ?_⟩
                      · simp only [mOf, mOfZ, mOfR, asRt, entry, List.length_cons, List.length_nil, List.replicate, List.cons_append, List.nil_append, Nat.reduceAdd, Nat.reduceSub, fV, fVx, fC, fB, fBN, fU, fUN, fL, fIsi, fAndV, fOrV, fNotV, fTv, asB, asL, asT, fNotT, fAndT, fOrT, fIf, fIfN, fCh, fCl, fClN, aNil, aD, aN, aP, fNil, fCons, fTup, fLst, sNil, sSeq, sSet, sSetM, sRet, sRetN, sIf, sBrk, sCnt, sDrop, sFor, rSeq, sFrz, iL, iT, iS, iE, iZ, iR1, iR2, oNone, oSome, fSlA, fSlL, fPot, sPot, gPot, sPotN, List.getElem?_cons_zero, List.getElem?_cons_succ, List.set_cons_zero, List.set_cons_succ, Option.bind_some, Option.map_some, Option.bind_none, Option.map_none, List.all_cons, List.all_nil, Sl.dp, Bool.and_true, Bool.true_and, and_self, and_true, true_and, if_true, if_false, ite_true, ite_false, Bool.false_eq_true, reduceCtorEq, reduceIte, Bool.not_true, Bool.not_false, gEq_str, gEq_int, gAdd_int, le_line, Nat.reduceLeDiff, Nat.reduceEqDiff, ne_eq, not_false_eq_true, cast_2, cast_3, cast_4, cast_5, cast_1, cast_0, eq_self, decide_true, decide_false, tTupG, tsCons, tName, tsNil]
                      · have ok' : dTask n y = true := ok
                        simp only [mOf, mOfZ, mOfR, asRt, entry, List.length_cons, List.length_nil, List.replicate, List.cons_append, List.nil_append, Nat.reduceAdd, Nat.reduceSub, fV, fVx, fC, fB, fBN, fU, fUN, fL, fIsi, fAndV, fOrV, fNotV, fTv, asB, asL, asT, fNotT, fAndT, fOrT, fIf, fIfN, fCh, fCl, fClN, aNil, aD, aN, aP, fNil, fCons, fTup, fLst, sNil, sSeq, sSet, sSetM, sRet, sRetN, sIf, sBrk, sCnt, sDrop, sFor, rSeq, sFrz, iL, iT, iS, iE, iZ, iR1, iR2, oNone, oSome, fSlA, fSlL, fPot, sPot, gPot, sPotN, List.getElem?_cons_zero, List.getElem?_cons_succ, List.set_cons_zero, List.set_cons_succ, Option.bind_some, Option.map_some, Option.bind_none, Option.map_none, List.all_cons, List.all_nil, Sl.dp, Bool.and_true, Bool.true_and, and_self, and_true, true_and, if_true, if_false, ite_true, ite_false, Bool.false_eq_true, reduceCtorEq, reduceIte, Bool.not_true, Bool.not_false, gEq_str, gEq_int, gAdd_int, le_line, Nat.reduceLeDiff, Nat.reduceEqDiff, ne_eq, not_false_eq_true, cast_2, cast_3, cast_4, cast_5, cast_1, cast_0, eq_self, decide_true, decide_false, e5, ok', gIx_tup, atI_1]
                      · have ok' : dTask n y = false := ok
                        simp only [mOf, mOfZ, mOfR, asRt, entry, List.length_cons, List.length_nil, List.replicate, List.cons_append, List.nil_append, Nat.reduceAdd, Nat.reduceSub, fV, fVx, fC, fB, fBN, fU, fUN, fL, fIsi, fAndV, fOrV, fNotV, fTv, asB, asL, asT, fNotT, fAndT, fOrT, fIf, fIfN, fCh, fCl, fClN, aNil, aD, aN, aP, fNil, fCons, fTup, fLst, sNil, sSeq, sSet, sSetM, sRet, sRetN, sIf, sBrk, sCnt, sDrop, sFor, rSeq, sFrz, iL, iT, iS, iE, iZ, iR1, iR2, oNone, oSome, fSlA, fSlL, fPot, sPot, gPot, sPotN, List.getElem?_cons_zero, List.getElem?_cons_succ, List.set_cons_zero, List.set_cons_succ, Option.bind_some, Option.map_some, Option.bind_none, Option.map_none, List.all_cons, List.all_nil, Sl.dp, Bool.and_true, Bool.true_and, and_self, and_true, true_and, if_true, if_false, ite_true, ite_false, Bool.false_eq_true, reduceCtorEq, reduceIte, Bool.not_true, Bool.not_false, gEq_str, gEq_int, gAdd_int, le_line, Nat.reduceLeDiff, Nat.reduceEqDiff, ne_eq, not_false_eq_true, cast_2, cast_3, cast_4, cast_5, cast_1, cast_0, eq_self, decide_true, decide_false, e5, ok', gIx_tup, atI_1, ixT])
                  cases hx : (numb ts).find? (fun x => !okT n x) with
                  | some x =>
                    rw [key.2 x hx]
                    simp only [mOf, mOfZ, mOfR, asRt, entry, List.length_cons, List.length_nil, List.replicate, List.cons_append, List.nil_append, Nat.reduceAdd, Nat.reduceSub, fV, fVx, fC, fB, fBN, fU, fUN, fL, fIsi, fAndV, fOrV, fNotV, fTv, asB, asL, asT, fNotT, fAndT, fOrT, fIf, fIfN, fCh, fCl, fClN, aNil, aD, aN, aP, fNil, fCons, fTup, fLst, sNil, sSeq, sSet, sSetM, sRet, sRetN, sIf, sBrk, sCnt, sDrop, sFor, rSeq, sFrz, iL, iT, iS, iE, iZ, iR1, iR2, oNone, oSome, fSlA, fSlL, fPot, sPot, gPot, sPotN, List.getElem?_cons_zero, List.getElem?_cons_succ, List.set_cons_zero, List.set_cons_succ, Option.bind_some, Option.map_some, Option.bind_none, Option.map_none, List.all_cons, List.all_nil, Sl.dp, Bool.and_true, Bool.true_and, and_self, and_true, true_and, if_true, if_false, ite_true, ite_false, Bool.false_eq_true, reduceCtorEq, reduceIte, Bool.not_true, Bool.not_false, gEq_str, gEq_int, gAdd_int, le_line, Nat.reduceLeDiff, Nat.reduceEqDiff, ne_eq, not_false_eq_true, cast_2, cast_3, cast_4, cast_5, cast_1, cast_0, eq_self, decide_true, decide_false, flaw4, hx]
                  | none =>
                    obtain ⟨ρ', e, s1, s2, rfl⟩ := key.1 hx
                    rw [e]
                    cases hf : dStand n f <;> cases hl : dStand n l <;> simp only [mOf, mOfZ, mOfR, asRt, entry, List.length_cons, List.length_nil, List.replicate, List.cons_append, List.nil_append, Nat.reduceAdd, Nat.reduceSub, fV, fVx, fC, fB, fBN, fU, fUN, fL, fIsi, fAndV, fOrV, fNotV, fTv, asB, asL, asT, fNotT, fAndT, fOrT, fIf, fIfN, fCh, fCl, fClN, aNil, aD, aN, aP, fNil, fCons, fTup, fLst, sNil, sSeq, sSet, sSetM, sRet, sRetN, sIf, sBrk, sCnt, sDrop, sFor, rSeq, sFrz, iL, iT, iS, iE, iZ, iR1, iR2, oNone, oSome, fSlA, fSlL, fPot, sPot, gPot, sPotN, List.getElem?_cons_zero, List.getElem?_cons_succ, List.set_cons_zero, List.set_cons_succ, Option.bind_some, Option.map_some, Option.bind_none, Option.map_none, List.all_cons, List.all_nil, Sl.dp, Bool.and_true, Bool.true_and, and_self, and_true, true_and, if_true, if_false, ite_true, ite_false, Bool.false_eq_true, reduceCtorEq, reduceIte, Bool.not_true, Bool.not_false, gEq_str, gEq_int, gAdd_int, le_line, Nat.reduceLeDiff, Nat.reduceEqDiff, ne_eq, not_false_eq_true, cast_2, cast_3, cast_4, cast_5, cast_1, cast_0, eq_self, decide_true, decide_false, DL.forM, tTupG, tsCons, tName, tsNil, e3, e4, hf, hl, gIx_tup, atI_1, atI_3, atI_4, flaw4, hx, wordN]
              | _ => simp only [mOf, mOfZ, mOfR, asRt, entry, List.length_cons, List.length_nil, List.replicate, List.cons_append, List.nil_append, Nat.reduceAdd, Nat.reduceSub, fV, fVx, fC, fB, fBN, fU, fUN, fL, fIsi, fAndV, fOrV, fNotV, fTv, asB, asL, asT, fNotT, fAndT, fOrT, fIf, fIfN, fCh, fCl, fClN, aNil, aD, aN, aP, fNil, fCons, fTup, fLst, sNil, sSeq, sSet, sSetM, sRet, sRetN, sIf, sBrk, sCnt, sDrop, sFor, rSeq, sFrz, iL, iT, iS, iE, iZ, iR1, iR2, oNone, oSome, fSlA, fSlL, fPot, sPot, gPot, sPotN, List.getElem?_cons_zero, List.getElem?_cons_succ, List.set_cons_zero, List.set_cons_succ, Option.bind_some, Option.map_some, Option.bind_none, Option.map_none, List.all_cons, List.all_nil, Sl.dp, Bool.and_true, Bool.true_and, and_self, and_true, true_and, if_true, if_false, ite_true, ite_false, Bool.false_eq_true, reduceCtorEq, reduceIte, Bool.not_true, Bool.not_false, gEq_str, gEq_int, gAdd_int, le_line, Nat.reduceLeDiff, Nat.reduceEqDiff, ne_eq, not_false_eq_true, cast_2, cast_3, cast_4, cast_5, cast_1, cast_0, eq_self, decide_true, decide_false, e_is_tuple, dTupN, h3, gIx_tup, atI_0, atI_1, atI_2, isi_str, isi_tuple, dTup, dStr, hw, wordN, e_is_within, hn, flaw2]
          | _ => simp only [mOf, mOfZ, mOfR, asRt, entry, List.length_cons, List.length_nil, List.replicate, List.cons_append, List.nil_append, Nat.reduceAdd, Nat.reduceSub, fV, fVx, fC, fB, fBN, fU, fUN, fL, fIsi, fAndV, fOrV, fNotV, fTv, asB, asL, asT, fNotT, fAndT, fOrT, fIf, fIfN, fCh, fCl, fClN, aNil, aD, aN, aP, fNil, fCons, fTup, fLst, sNil, sSeq, sSet, sSetM, sRet, sRetN, sIf, sBrk, sCnt, sDrop, sFor, rSeq, sFrz, iL, iT, iS, iE, iZ, iR1, iR2, oNone, oSome, fSlA, fSlL, fPot, sPot, gPot, sPotN, List.getElem?_cons_zero, List.getElem?_cons_succ, List.set_cons_zero, List.set_cons_succ, Option.bind_some, Option.map_some, Option.bind_none, Option.map_none, List.all_cons, List.all_nil, Sl.dp, Bool.and_true, Bool.true_and, and_self, and_true, true_and, if_true, if_false, ite_true, ite_false, Bool.false_eq_true, reduceCtorEq, reduceIte, Bool.not_true, Bool.not_false, gEq_str, gEq_int, gAdd_int, le_line, Nat.reduceLeDiff, Nat.reduceEqDiff, ne_eq, not_false_eq_true, cast_2, cast_3, cast_4, cast_5, cast_1, cast_0, eq_self, decide_true, decide_false, e_is_tuple, dTupN, h3, gIx_tup, atI_0, atI_1, isi_str, dStr, hw, wordN, e_is_within, dIn, flaw2]
      | _ => simp only [mOf, mOfZ, mOfR, asRt, entry, List.length_cons, List.length_nil, List.replicate, List.cons_append, List.nil_append, Nat.reduceAdd, Nat.reduceSub, fV, fVx, fC, fB, fBN, fU, fUN, fL, fIsi, fAndV, fOrV, fNotV, fTv, asB, asL, asT, fNotT, fAndT, fOrT, fIf, fIfN, fCh, fCl, fClN, aNil, aD, aN, aP, fNil, fCons, fTup, fLst, sNil, sSeq, sSet, sSetM, sRet, sRetN, sIf, sBrk, sCnt, sDrop, sFor, rSeq, sFrz, iL, iT, iS, iE, iZ, iR1, iR2, oNone, oSome, fSlA, fSlL, fPot, sPot, gPot, sPotN, List.getElem?_cons_zero, List.getElem?_cons_succ, List.set_cons_zero, List.set_cons_succ, Option.bind_some, Option.map_some, Option.bind_none, Option.map_none, List.all_cons, List.all_nil, Sl.dp, Bool.and_true, Bool.true_and, and_self, and_true, true_and, if_true, if_false, ite_true, ite_false, Bool.false_eq_true, reduceCtorEq, reduceIte, Bool.not_true, Bool.not_false, gEq_str, gEq_int, gAdd_int, le_line, Nat.reduceLeDiff, Nat.reduceEqDiff, ne_eq, not_false_eq_true, cast_2, cast_3, cast_4, cast_5, cast_1, cast_0, eq_self, decide_true, decide_false, e_is_tuple, dTupN, h3, gIx_tup, atI_0, isi_str, dStr, wordN]
    · have e : ¬ ((xs.length : Int) = 5) := by omega
      rw [flawS_len hlen]
      simp only [mOf, mOfZ, mOfR, asRt, entry, List.length_cons, List.length_nil, List.replicate, List.cons_append, List.nil_append, Nat.reduceAdd, Nat.reduceSub, fV, fVx, fC, fB, fBN, fU, fUN, fL, fIsi, fAndV, fOrV, fNotV, fTv, asB, asL, asT, fNotT, fAndT, fOrT, fIf, fIfN, fCh, fCl, fClN, aNil, aD, aN, aP, fNil, fCons, fTup, fLst, sNil, sSeq, sSet, sSetM, sRet, sRetN, sIf, sBrk, sCnt, sDrop, sFor, rSeq, sFrz, iL, iT, iS, iE, iZ, iR1, iR2, oNone, oSome, fSlA, fSlL, fPot, sPot, gPot, sPotN, List.getElem?_cons_zero, List.getElem?_cons_succ, List.set_cons_zero, List.set_cons_succ, Option.bind_some, Option.map_some, Option.bind_none, Option.map_none, List.all_cons, List.all_nil, Sl.dp, Bool.and_true, Bool.true_and, and_self, and_true, true_and, if_true, if_false, ite_true, ite_false, Bool.false_eq_true, reduceCtorEq, reduceIte, Bool.not_true, Bool.not_false, gEq_str, gEq_int, gAdd_int, le_line, Nat.reduceLeDiff, Nat.reduceEqDiff, ne_eq, not_false_eq_true, cast_2, cast_3, cast_4, cast_5, cast_1, cast_0, eq_self, decide_true, decide_false, e_is_tuple, dTupN, e, wordN]
  | _ => simp only [mOf, mOfZ, mOfR, asRt, entry, List.length_cons, List.length_nil, List.replicate, List.cons_append, List.nil_append, Nat.reduceAdd, Nat.reduceSub, fV, fVx, fC, fB, fBN, fU, fUN, fL, fIsi, fAndV, fOrV, fNotV, fTv, asB, asL, asT, fNotT, fAndT, fOrT, fIf, fIfN, fCh, fCl, fClN, aNil, aD, aN, aP, fNil, fCons, fTup, fLst, sNil, sSeq, sSet, sSetM, sRet, sRetN, sIf, sBrk, sCnt, sDrop, sFor, rSeq, sFrz, iL, iT, iS, iE, iZ, iR1, iR2, oNone, oSome, fSlA, fSlL, fPot, sPot, gPot, sPotN, List.getElem?_cons_zero, List.getElem?_cons_succ, List.set_cons_zero, List.set_cons_succ, Option.bind_some, Option.map_some, Option.bind_none, Option.map_none, List.all_cons, List.all_nil, Sl.dp, Bool.and_true, Bool.true_and, and_self, and_true, true_and, if_true, if_false, ite_true, ite_false, Bool.false_eq_true, reduceCtorEq, reduceIte, Bool.not_true, Bool.not_false, gEq_str, gEq_int, gAdd_int, le_line, Nat.reduceLeDiff, Nat.reduceEqDiff, ne_eq, not_false_eq_true, cast_2, cast_3, cast_4, cast_5, cast_1, cast_0, eq_self, decide_true, decide_false, e_is_tuple, dTupN, flawS, wordN]

theorem e_sheet_flaw (v : PyData) (π : Pt) (h : SheetH v) : m_sheet_flaw [.d v] π = some (flawS v, π) := by
  unfold m_sheet_flaw g_sheet_flaw
  simp only [mOf, mOfZ, mOfR, asRt, entry, List.length_cons, List.length_nil, List.replicate, List.cons_append, List.nil_append, Nat.reduceAdd, Nat.reduceSub, fV, fVx, fC, fB, fBN, fU, fUN, fL, fIsi, fAndV, fOrV, fNotV, fTv, asB, asL, asT, fNotT, fAndT, fOrT, fIf, fIfN, fCh, fCl, fClN, aNil, aD, aN, aP, fNil, fCons, fTup, fLst, sNil, sSeq, sSet, sSetM, sRet, sRetN, sIf, sBrk, sCnt, sDrop, sFor, rSeq, sFrz, iL, iT, iS, iE, iZ, iR1, iR2, oNone, oSome, fSlA, fSlL, fPot, sPot, gPot, sPotN, List.getElem?_cons_zero, List.getElem?_cons_succ, List.set_cons_zero, List.set_cons_succ, Option.bind_some, Option.map_some, Option.bind_none, Option.map_none, List.all_cons, List.all_nil, Sl.dp, Bool.and_true, Bool.true_and, and_self, and_true, true_and, if_true, if_false, ite_true, ite_false, Bool.false_eq_true, reduceCtorEq, reduceIte, Bool.not_true, Bool.not_false, gEq_str, gEq_int, gAdd_int, le_line, Nat.reduceLeDiff, Nat.reduceEqDiff, ne_eq, not_false_eq_true, cast_2, cast_3, cast_4, cast_5, cast_1, cast_0, eq_self, decide_true, decide_false, e_flaw_of v _ h]
theorem okT_ix (n : Int) (ts : List PyData) : ∀ x ∈ (numb ts).filter fun x => !okT n x, ∃ i : Int, ixT x = .int i := fun x hx => by
  obtain ⟨i, y, rfl, _, _⟩ := numb_mem (List.mem_filter.mp hx).1
  exact ⟨_, rfl⟩
theorem e_law_flaw (v : PyData) (π : Pt) (h : SheetH v) : m__law_flaw [.d v] π = some (flawS v, π) := by
  unfold m__law_flaw g__law_flaw
  cases v with
  | tuple xs =>
    by_cases hlen : xs.length = 5
    · obtain ⟨a, p, t, f, l, rfl⟩ := five hlen
      have h3 : (([a, p, t, f, l] : List PyData).length : Int) = 5 := rfl
      simp only [flawS, flaw5]
      cases a with
      | str w =>
        cases hw : decide (w = "sheet") with
        | false => simp only [mOf, mOfZ, mOfR, asRt, entry, List.length_cons, List.length_nil, List.replicate, List.cons_append, List.nil_append, Nat.reduceAdd, Nat.reduceSub, fV, fVx, fC, fB, fBN, fU, fUN, fL, fIsi, fAndV, fOrV, fNotV, fTv, asB, asL, asT, fNotT, fAndT, fOrT, fIf, fIfN, fCh, fCl, fClN, aNil, aD, aN, aP, fNil, fCons, fTup, fLst, sNil, sSeq, sSet, sSetM, sRet, sRetN, sIf, sBrk, sCnt, sDrop, sFor, rSeq, sFrz, iL, iT, iS, iE, iZ, iR1, iR2, oNone, oSome, fSlA, fSlL, fPot, sPot, gPot, sPotN, List.getElem?_cons_zero, List.getElem?_cons_succ, List.set_cons_zero, List.set_cons_succ, Option.bind_some, Option.map_some, Option.bind_none, Option.map_none, List.all_cons, List.all_nil, Sl.dp, Bool.and_true, Bool.true_and, and_self, and_true, true_and, if_true, if_false, ite_true, ite_false, Bool.false_eq_true, reduceCtorEq, reduceIte, Bool.not_true, Bool.not_false, gEq_str, gEq_int, gAdd_int, le_line, Nat.reduceLeDiff, Nat.reduceEqDiff, ne_eq, not_false_eq_true, cast_2, cast_3, cast_4, cast_5, cast_1, cast_0, eq_self, decide_true, decide_false, isi_tuple, dTup, gLen_tup, h3, gIx_tup, atI_0, isi_str, dStr, hw, wordN]
        | true =>
          cases p with
          | int n =>
            cases hn : dIn 1 16 (.int n) with
            | false => simp only [mOf, mOfZ, mOfR, asRt, entry, List.length_cons, List.length_nil, List.replicate, List.cons_append, List.nil_append, Nat.reduceAdd, Nat.reduceSub, fV, fVx, fC, fB, fBN, fU, fUN, fL, fIsi, fAndV, fOrV, fNotV, fTv, asB, asL, asT, fNotT, fAndT, fOrT, fIf, fIfN, fCh, fCl, fClN, aNil, aD, aN, aP, fNil, fCons, fTup, fLst, sNil, sSeq, sSet, sSetM, sRet, sRetN, sIf, sBrk, sCnt, sDrop, sFor, rSeq, sFrz, iL, iT, iS, iE, iZ, iR1, iR2, oNone, oSome, fSlA, fSlL, fPot, sPot, gPot, sPotN, List.getElem?_cons_zero, List.getElem?_cons_succ, List.set_cons_zero, List.set_cons_succ, Option.bind_some, Option.map_some, Option.bind_none, Option.map_none, List.all_cons, List.all_nil, Sl.dp, Bool.and_true, Bool.true_and, and_self, and_true, true_and, if_true, if_false, ite_true, ite_false, Bool.false_eq_true, reduceCtorEq, reduceIte, Bool.not_true, Bool.not_false, gEq_str, gEq_int, gAdd_int, le_line, Nat.reduceLeDiff, Nat.reduceEqDiff, ne_eq, not_false_eq_true, cast_2, cast_3, cast_4, cast_5, cast_1, cast_0, eq_self, decide_true, decide_false, isi_tuple, dTup, gLen_tup, h3, gIx_tup, atI_0, atI_1, isi_str, dStr, hw, wordN, e_number, hn, flaw2]
            | true =>
              cases t with
              | tuple ts =>
                cases ht : dIn 1 24 (.int ts.length) with
                | false =>
                  have e : (decide ((1 : Int) ≤ ts.length) && decide ((ts.length : Int) ≤ 24)) = false := ht
                  cases h1 : decide ((1 : Int) ≤ ts.length) with
                  | false => simp only [mOf, mOfZ, mOfR, asRt, entry, List.length_cons, List.length_nil, List.replicate, List.cons_append, List.nil_append, Nat.reduceAdd, Nat.reduceSub, fV, fVx, fC, fB, fBN, fU, fUN, fL, fIsi, fAndV, fOrV, fNotV, fTv, asB, asL, asT, fNotT, fAndT, fOrT, fIf, fIfN, fCh, fCl, fClN, aNil, aD, aN, aP, fNil, fCons, fTup, fLst, sNil, sSeq, sSet, sSetM, sRet, sRetN, sIf, sBrk, sCnt, sDrop, sFor, rSeq, sFrz, iL, iT, iS, iE, iZ, iR1, iR2, oNone, oSome, fSlA, fSlL, fPot, sPot, gPot, sPotN, List.getElem?_cons_zero, List.getElem?_cons_succ, List.set_cons_zero, List.set_cons_succ, Option.bind_some, Option.map_some, Option.bind_none, Option.map_none, List.all_cons, List.all_nil, Sl.dp, Bool.and_true, Bool.true_and, and_self, and_true, true_and, if_true, if_false, ite_true, ite_false, Bool.false_eq_true, reduceCtorEq, reduceIte, Bool.not_true, Bool.not_false, gEq_str, gEq_int, gAdd_int, le_line, Nat.reduceLeDiff, Nat.reduceEqDiff, ne_eq, not_false_eq_true, cast_2, cast_3, cast_4, cast_5, cast_1, cast_0, eq_self, decide_true, decide_false, isi_tuple, dTup, gLen_tup, h3, gIx_tup, atI_0, atI_1, atI_2, isi_str, dStr, hw, wordN, e_number, hn, flaw2, gLe, gCmp, ht, h1]
                  | true =>
                    rw [h1] at e
                    have h2 : decide ((ts.length : Int) ≤ 24) = false := e
                    simp only [mOf, mOfZ, mOfR, asRt, entry, List.length_cons, List.length_nil, List.replicate, List.cons_append, List.nil_append, Nat.reduceAdd, Nat.reduceSub, fV, fVx, fC, fB, fBN, fU, fUN, fL, fIsi, fAndV, fOrV, fNotV, fTv, asB, asL, asT, fNotT, fAndT, fOrT, fIf, fIfN, fCh, fCl, fClN, aNil, aD, aN, aP, fNil, fCons, fTup, fLst, sNil, sSeq, sSet, sSetM, sRet, sRetN, sIf, sBrk, sCnt, sDrop, sFor, rSeq, sFrz, iL, iT, iS, iE, iZ, iR1, iR2, oNone, oSome, fSlA, fSlL, fPot, sPot, gPot, sPotN, List.getElem?_cons_zero, List.getElem?_cons_succ, List.set_cons_zero, List.set_cons_succ, Option.bind_some, Option.map_some, Option.bind_none, Option.map_none, List.all_cons, List.all_nil, Sl.dp, Bool.and_true, Bool.true_and, and_self, and_true, true_and, if_true, if_false, ite_true, ite_false, Bool.false_eq_true, reduceCtorEq, reduceIte, Bool.not_true, Bool.not_false, gEq_str, gEq_int, gAdd_int, le_line, Nat.reduceLeDiff, Nat.reduceEqDiff, ne_eq, not_false_eq_true, cast_2, cast_3, cast_4, cast_5, cast_1, cast_0, eq_self, decide_true, decide_false, isi_tuple, dTup, gLen_tup, h3, gIx_tup, atI_0, atI_1, atI_2, isi_str, dStr, hw, wordN, e_number, hn, flaw2, gLe, gCmp, ht, h1, h2]
                | true =>
                  have e : (decide ((1 : Int) ≤ ts.length) && decide ((ts.length : Int) ≤ 24)) = true := ht
                  rw [Bool.and_eq_true] at e
                  obtain ⟨h1, h2⟩ := e
                  have h24 : ts.length ≤ sizeLine := by
                    have := of_decide_eq_true h2
                    rw [sizeLine_eq]; omega
                  have e3 := fun π => e_law_is_standing f n π fun xs e => h.fst _ _ _ xs _ (by rw [e])
                  have e4 := fun π => e_law_is_standing l n π fun xs e => h.lst _ _ _ _ xs (by rw [e])
                  simp only [mOf, mOfZ, mOfR, asRt, entry, List.length_cons, List.length_nil, List.replicate, List.cons_append, List.nil_append, Nat.reduceAdd, Nat.reduceSub, fV, fVx, fC, fB, fBN, fU, fUN, fL, fIsi, fAndV, fOrV, fNotV, fTv, asB, asL, asT, fNotT, fAndT, fOrT, fIf, fIfN, fCh, fCl, fClN, aNil, aD, aN, aP, fNil, fCons, fTup, fLst, sNil, sSeq, sSet, sSetM, sRet, sRetN, sIf, sBrk, sCnt, sDrop, sFor, rSeq, sFrz, iL, iT, iS, iE, iZ, iR1, iR2, oNone, oSome, fSlA, fSlL, fPot, sPot, gPot, sPotN, List.getElem?_cons_zero, List.getElem?_cons_succ, List.set_cons_zero, List.set_cons_succ, Option.bind_some, Option.map_some, Option.bind_none, Option.map_none, List.all_cons, List.all_nil, Sl.dp, Bool.and_true, Bool.true_and, and_self, and_true, true_and, if_true, if_false, ite_true, ite_false, Bool.false_eq_true, reduceCtorEq, reduceIte, Bool.not_true, Bool.not_false, gEq_str, gEq_int, gAdd_int, le_line, Nat.reduceLeDiff, Nat.reduceEqDiff, ne_eq, not_false_eq_true, cast_2, cast_3, cast_4, cast_5, cast_1, cast_0, eq_self, decide_true, decide_false, isi_tuple, dTup, gLen_tup, h3, gIx_tup, atI_0, atI_1, atI_2, isi_str, dStr, hw, wordN, e_number, hn, flaw2, gLe, gCmp, ht, h1, h2]
                  rw [fLc_pure (ds := numb ts) (π1 := π) (fun x => !okT n x) ixT]
                  · cases hx : (numb ts).find? (fun x => !okT n x) with
                    | some x =>
                      have hh : ((numb ts).filter fun x => !okT n x).head? = some x := by rw [List.head?_filter]; exact hx
                      obtain ⟨q1, q2⟩ := canLay_flat (((numb ts).filter fun x => !okT n x).map ixT) fun y hy => by
                        obtain ⟨z, hz, rfl⟩ := List.mem_map.mp hy
                        exact okT_ix n ts z hz
                      cases hfl : (numb ts).filter fun x => !okT n x with
                      | nil => rw [hfl] at hh; cases hh
                      | cons y r =>
                        rw [hfl] at hh q1 q2
                        cases hh
                        rw [List.map_cons] at q1 q2
                        have q3 := gEq_nil q1 q2 true
                        simp only [mOf, mOfZ, mOfR, asRt, entry, List.length_cons, List.length_nil, List.replicate, List.cons_append, List.nil_append, Nat.reduceAdd, Nat.reduceSub, fV, fVx, fC, fB, fBN, fU, fUN, fL, fIsi, fAndV, fOrV, fNotV, fTv, asB, asL, asT, fNotT, fAndT, fOrT, fIf, fIfN, fCh, fCl, fClN, aNil, aD, aN, aP, fNil, fCons, fTup, fLst, sNil, sSeq, sSet, sSetM, sRet, sRetN, sIf, sBrk, sCnt, sDrop, sFor, rSeq, sFrz, iL, iT, iS, iE, iZ, iR1, iR2, oNone, oSome, fSlA, fSlL, fPot, sPot, gPot, sPotN, List.getElem?_cons_zero, List.getElem?_cons_succ, List.set_cons_zero, List.set_cons_succ, Option.bind_some, Option.map_some, Option.bind_none, Option.map_none, List.all_cons, List.all_nil, Sl.dp, Bool.and_true, Bool.true_and, and_self, and_true, true_and, if_true, if_false, ite_true, ite_false, Bool.false_eq_true, reduceCtorEq, reduceIte, Bool.not_true, Bool.not_false, gEq_str, gEq_int, gAdd_int, le_line, Nat.reduceLeDiff, Nat.reduceEqDiff, ne_eq, not_false_eq_true, cast_2, cast_3, cast_4, cast_5, cast_1, cast_0, eq_self, decide_true, decide_false, q3, List.map_cons, List.isEmpty_cons, gIx_lst, atI_0, flaw4, hx]
                    | none =>
                      have hfl : ((numb ts).filter fun x => !okT n x) = [] := by
                        rw [List.filter_eq_nil_iff]
                        intro y hy
                        have := List.find?_eq_none.mp hx y hy
                        simpa using this
                      rw [hfl]
                      have q3 : gEq true (.list []) (.list []) = some (.bool false) := gEq_nil rfl rfl true
                      cases hf : dStand n f <;> cases hl : dStand n l <;> simp only [mOf, mOfZ, mOfR, asRt, entry, List.length_cons, List.length_nil, List.replicate, List.cons_append, List.nil_append, Nat.reduceAdd, Nat.reduceSub, fV, fVx, fC, fB, fBN, fU, fUN, fL, fIsi, fAndV, fOrV, fNotV, fTv, asB, asL, asT, fNotT, fAndT, fOrT, fIf, fIfN, fCh, fCl, fClN, aNil, aD, aN, aP, fNil, fCons, fTup, fLst, sNil, sSeq, sSet, sSetM, sRet, sRetN, sIf, sBrk, sCnt, sDrop, sFor, rSeq, sFrz, iL, iT, iS, iE, iZ, iR1, iR2, oNone, oSome, fSlA, fSlL, fPot, sPot, gPot, sPotN, List.getElem?_cons_zero, List.getElem?_cons_succ, List.set_cons_zero, List.set_cons_succ, Option.bind_some, Option.map_some, Option.bind_none, Option.map_none, List.all_cons, List.all_nil, Sl.dp, Bool.and_true, Bool.true_and, and_self, and_true, true_and, if_true, if_false, ite_true, ite_false, Bool.false_eq_true, reduceCtorEq, reduceIte, Bool.not_true, Bool.not_false, gEq_str, gEq_int, gAdd_int, le_line, Nat.reduceLeDiff, Nat.reduceEqDiff, ne_eq, not_false_eq_true, cast_2, cast_3, cast_4, cast_5, cast_1, cast_0, eq_self, decide_true, decide_false, List.map_nil, q3, e3, e4, hf, hl, gIx_tup, atI_1, atI_3, atI_4, flaw4, hx, wordN]
                  · simp only [mOf, mOfZ, mOfR, asRt, entry, List.length_cons, List.length_nil, List.replicate, List.cons_append, List.nil_append, Nat.reduceAdd, Nat.reduceSub, fV, fVx, fC, fB, fBN, fU, fUN, fL, fIsi, fAndV, fOrV, fNotV, fTv, asB, asL, asT, fNotT, fAndT, fOrT, fIf, fIfN, fCh, fCl, fClN, aNil, aD, aN, aP, fNil, fCons, fTup, fLst, sNil, sSeq, sSet, sSetM, sRet, sRetN, sIf, sBrk, sCnt, sDrop, sFor, rSeq, sFrz, iL, iT, iS, iE, iZ, iR1, iR2, oNone, oSome, fSlA, fSlL, fPot, sPot, gPot, sPotN, List.getElem?_cons_zero, List.getElem?_cons_succ, List.set_cons_zero, List.set_cons_succ, Option.bind_some, Option.map_some, Option.bind_none, Option.map_none, List.all_cons, List.all_nil, Sl.dp, Bool.and_true, Bool.true_and, and_self, and_true, true_and, if_true, if_false, ite_true, ite_false, Bool.false_eq_true, reduceCtorEq, reduceIte, Bool.not_true, Bool.not_false, gEq_str, gEq_int, gAdd_int, le_line, Nat.reduceLeDiff, Nat.reduceEqDiff, ne_eq, not_false_eq_true, cast_2, cast_3, cast_4, cast_5, cast_1, cast_0, eq_self, decide_true, decide_false, gIx_tup, atI_2]
                  · unfold numb; rw [List.length_map, List.length_zipIdx]; exact h24
                  · intro x hx
                    obtain ⟨i, y, rfl, hy, _⟩ := numb_mem hx
                    have e5 := fun π => e_law_is_task y n π (h.tasks _ _ _ _ _ rfl y hy)
                    refine ⟨[.d (.tuple [.str w, .int n, .tuple ts, f, l]), .e, .d (.int i), .d y], ?_, ?_, fun _ => ?_⟩
                    · simp only [mOf, mOfZ, mOfR, asRt, entry, List.length_cons, List.length_nil, List.replicate, List.cons_append, List.nil_append, Nat.reduceAdd, Nat.reduceSub, fV, fVx, fC, fB, fBN, fU, fUN, fL, fIsi, fAndV, fOrV, fNotV, fTv, asB, asL, asT, fNotT, fAndT, fOrT, fIf, fIfN, fCh, fCl, fClN, aNil, aD, aN, aP, fNil, fCons, fTup, fLst, sNil, sSeq, sSet, sSetM, sRet, sRetN, sIf, sBrk, sCnt, sDrop, sFor, rSeq, sFrz, iL, iT, iS, iE, iZ, iR1, iR2, oNone, oSome, fSlA, fSlL, fPot, sPot, gPot, sPotN, List.getElem?_cons_zero, List.getElem?_cons_succ, List.set_cons_zero, List.set_cons_succ, Option.bind_some, Option.map_some, Option.bind_none, Option.map_none, List.all_cons, List.all_nil, Sl.dp, Bool.and_true, Bool.true_and, and_self, and_true, true_and, if_true, if_false, ite_true, ite_false, Bool.false_eq_true, reduceCtorEq, reduceIte, Bool.not_true, Bool.not_false, gEq_str, gEq_int, gAdd_int, le_line, Nat.reduceLeDiff, Nat.reduceEqDiff, ne_eq, not_false_eq_true, cast_2, cast_3, cast_4, cast_5, cast_1, cast_0, eq_self, decide_true, decide_false, tTupG, tsCons, tName, tsNil, wipeE]
                    · simp only [mOf, mOfZ, mOfR, asRt, entry, List.length_cons, List.length_nil, List.replicate, List.cons_append, List.nil_append, Nat.reduceAdd, Nat.reduceSub, fV, fVx, fC, fB, fBN, fU, fUN, fL, fIsi, fAndV, fOrV, fNotV, fTv, asB, asL, asT, fNotT, fAndT, fOrT, fIf, fIfN, fCh, fCl, fClN, aNil, aD, aN, aP, fNil, fCons, fTup, fLst, sNil, sSeq, sSet, sSetM, sRet, sRetN, sIf, sBrk, sCnt, sDrop, sFor, rSeq, sFrz, iL, iT, iS, iE, iZ, iR1, iR2, oNone, oSome, fSlA, fSlL, fPot, sPot, gPot, sPotN, List.getElem?_cons_zero, List.getElem?_cons_succ, List.set_cons_zero, List.set_cons_succ, Option.bind_some, Option.map_some, Option.bind_none, Option.map_none, List.all_cons, List.all_nil, Sl.dp, Bool.and_true, Bool.true_and, and_self, and_true, true_and, if_true, if_false, ite_true, ite_false, Bool.false_eq_true, reduceCtorEq, reduceIte, Bool.not_true, Bool.not_false, gEq_str, gEq_int, gAdd_int, le_line, Nat.reduceLeDiff, Nat.reduceEqDiff, ne_eq, not_false_eq_true, cast_2, cast_3, cast_4, cast_5, cast_1, cast_0, eq_self, decide_true, decide_false, e5, gIx_tup, atI_1, okT]
                    · simp only [mOf, mOfZ, mOfR, asRt, entry, List.length_cons, List.length_nil, List.replicate, List.cons_append, List.nil_append, Nat.reduceAdd, Nat.reduceSub, fV, fVx, fC, fB, fBN, fU, fUN, fL, fIsi, fAndV, fOrV, fNotV, fTv, asB, asL, asT, fNotT, fAndT, fOrT, fIf, fIfN, fCh, fCl, fClN, aNil, aD, aN, aP, fNil, fCons, fTup, fLst, sNil, sSeq, sSet, sSetM, sRet, sRetN, sIf, sBrk, sCnt, sDrop, sFor, rSeq, sFrz, iL, iT, iS, iE, iZ, iR1, iR2, oNone, oSome, fSlA, fSlL, fPot, sPot, gPot, sPotN, List.getElem?_cons_zero, List.getElem?_cons_succ, List.set_cons_zero, List.set_cons_succ, Option.bind_some, Option.map_some, Option.bind_none, Option.map_none, List.all_cons, List.all_nil, Sl.dp, Bool.and_true, Bool.true_and, and_self, and_true, true_and, if_true, if_false, ite_true, ite_false, Bool.false_eq_true, reduceCtorEq, reduceIte, Bool.not_true, Bool.not_false, gEq_str, gEq_int, gAdd_int, le_line, Nat.reduceLeDiff, Nat.reduceEqDiff, ne_eq, not_false_eq_true, cast_2, cast_3, cast_4, cast_5, cast_1, cast_0, eq_self, decide_true, decide_false, ixT]
              | _ => simp only [mOf, mOfZ, mOfR, asRt, entry, List.length_cons, List.length_nil, List.replicate, List.cons_append, List.nil_append, Nat.reduceAdd, Nat.reduceSub, fV, fVx, fC, fB, fBN, fU, fUN, fL, fIsi, fAndV, fOrV, fNotV, fTv, asB, asL, asT, fNotT, fAndT, fOrT, fIf, fIfN, fCh, fCl, fClN, aNil, aD, aN, aP, fNil, fCons, fTup, fLst, sNil, sSeq, sSet, sSetM, sRet, sRetN, sIf, sBrk, sCnt, sDrop, sFor, rSeq, sFrz, iL, iT, iS, iE, iZ, iR1, iR2, oNone, oSome, fSlA, fSlL, fPot, sPot, gPot, sPotN, List.getElem?_cons_zero, List.getElem?_cons_succ, List.set_cons_zero, List.set_cons_succ, Option.bind_some, Option.map_some, Option.bind_none, Option.map_none, List.all_cons, List.all_nil, Sl.dp, Bool.and_true, Bool.true_and, and_self, and_true, true_and, if_true, if_false, ite_true, ite_false, Bool.false_eq_true, reduceCtorEq, reduceIte, Bool.not_true, Bool.not_false, gEq_str, gEq_int, gAdd_int, le_line, Nat.reduceLeDiff, Nat.reduceEqDiff, ne_eq, not_false_eq_true, cast_2, cast_3, cast_4, cast_5, cast_1, cast_0, eq_self, decide_true, decide_false, isi_tuple, dTup, gLen_tup, h3, gIx_tup, atI_0, atI_1, atI_2, isi_str, dStr, hw, wordN, e_number, hn, flaw2]
          | _ => simp only [mOf, mOfZ, mOfR, asRt, entry, List.length_cons, List.length_nil, List.replicate, List.cons_append, List.nil_append, Nat.reduceAdd, Nat.reduceSub, fV, fVx, fC, fB, fBN, fU, fUN, fL, fIsi, fAndV, fOrV, fNotV, fTv, asB, asL, asT, fNotT, fAndT, fOrT, fIf, fIfN, fCh, fCl, fClN, aNil, aD, aN, aP, fNil, fCons, fTup, fLst, sNil, sSeq, sSet, sSetM, sRet, sRetN, sIf, sBrk, sCnt, sDrop, sFor, rSeq, sFrz, iL, iT, iS, iE, iZ, iR1, iR2, oNone, oSome, fSlA, fSlL, fPot, sPot, gPot, sPotN, List.getElem?_cons_zero, List.getElem?_cons_succ, List.set_cons_zero, List.set_cons_succ, Option.bind_some, Option.map_some, Option.bind_none, Option.map_none, List.all_cons, List.all_nil, Sl.dp, Bool.and_true, Bool.true_and, and_self, and_true, true_and, if_true, if_false, ite_true, ite_false, Bool.false_eq_true, reduceCtorEq, reduceIte, Bool.not_true, Bool.not_false, gEq_str, gEq_int, gAdd_int, le_line, Nat.reduceLeDiff, Nat.reduceEqDiff, ne_eq, not_false_eq_true, cast_2, cast_3, cast_4, cast_5, cast_1, cast_0, eq_self, decide_true, decide_false, isi_tuple, dTup, gLen_tup, h3, gIx_tup, atI_0, atI_1, isi_str, dStr, hw, wordN, e_number, dIn, flaw2]
      | _ => simp only [mOf, mOfZ, mOfR, asRt, entry, List.length_cons, List.length_nil, List.replicate, List.cons_append, List.nil_append, Nat.reduceAdd, Nat.reduceSub, fV, fVx, fC, fB, fBN, fU, fUN, fL, fIsi, fAndV, fOrV, fNotV, fTv, asB, asL, asT, fNotT, fAndT, fOrT, fIf, fIfN, fCh, fCl, fClN, aNil, aD, aN, aP, fNil, fCons, fTup, fLst, sNil, sSeq, sSet, sSetM, sRet, sRetN, sIf, sBrk, sCnt, sDrop, sFor, rSeq, sFrz, iL, iT, iS, iE, iZ, iR1, iR2, oNone, oSome, fSlA, fSlL, fPot, sPot, gPot, sPotN, List.getElem?_cons_zero, List.getElem?_cons_succ, List.set_cons_zero, List.set_cons_succ, Option.bind_some, Option.map_some, Option.bind_none, Option.map_none, List.all_cons, List.all_nil, Sl.dp, Bool.and_true, Bool.true_and, and_self, and_true, true_and, if_true, if_false, ite_true, ite_false, Bool.false_eq_true, reduceCtorEq, reduceIte, Bool.not_true, Bool.not_false, gEq_str, gEq_int, gAdd_int, le_line, Nat.reduceLeDiff, Nat.reduceEqDiff, ne_eq, not_false_eq_true, cast_2, cast_3, cast_4, cast_5, cast_1, cast_0, eq_self, decide_true, decide_false, isi_tuple, dTup, gLen_tup, h3, gIx_tup, atI_0, isi_str, dStr, wordN]
    · have e : ¬ ((xs.length : Int) = 5) := by omega
      rw [flawS_len hlen]
      simp only [mOf, mOfZ, mOfR, asRt, entry, List.length_cons, List.length_nil, List.replicate, List.cons_append, List.nil_append, Nat.reduceAdd, Nat.reduceSub, fV, fVx, fC, fB, fBN, fU, fUN, fL, fIsi, fAndV, fOrV, fNotV, fTv, asB, asL, asT, fNotT, fAndT, fOrT, fIf, fIfN, fCh, fCl, fClN, aNil, aD, aN, aP, fNil, fCons, fTup, fLst, sNil, sSeq, sSet, sSetM, sRet, sRetN, sIf, sBrk, sCnt, sDrop, sFor, rSeq, sFrz, iL, iT, iS, iE, iZ, iR1, iR2, oNone, oSome, fSlA, fSlL, fPot, sPot, gPot, sPotN, List.getElem?_cons_zero, List.getElem?_cons_succ, List.set_cons_zero, List.set_cons_succ, Option.bind_some, Option.map_some, Option.bind_none, Option.map_none, List.all_cons, List.all_nil, Sl.dp, Bool.and_true, Bool.true_and, and_self, and_true, true_and, if_true, if_false, ite_true, ite_false, Bool.false_eq_true, reduceCtorEq, reduceIte, Bool.not_true, Bool.not_false, gEq_str, gEq_int, gAdd_int, le_line, Nat.reduceLeDiff, Nat.reduceEqDiff, ne_eq, not_false_eq_true, cast_2, cast_3, cast_4, cast_5, cast_1, cast_0, eq_self, decide_true, decide_false, isi_tuple, dTup, gLen_tup, e, wordN]
  | _ => simp only [mOf, mOfZ, mOfR, asRt, entry, List.length_cons, List.length_nil, List.replicate, List.cons_append, List.nil_append, Nat.reduceAdd, Nat.reduceSub, fV, fVx, fC, fB, fBN, fU, fUN, fL, fIsi, fAndV, fOrV, fNotV, fTv, asB, asL, asT, fNotT, fAndT, fOrT, fIf, fIfN, fCh, fCl, fClN, aNil, aD, aN, aP, fNil, fCons, fTup, fLst, sNil, sSeq, sSet, sSetM, sRet, sRetN, sIf, sBrk, sCnt, sDrop, sFor, rSeq, sFrz, iL, iT, iS, iE, iZ, iR1, iR2, oNone, oSome, fSlA, fSlL, fPot, sPot, gPot, sPotN, List.getElem?_cons_zero, List.getElem?_cons_succ, List.set_cons_zero, List.set_cons_succ, Option.bind_some, Option.map_some, Option.bind_none, Option.map_none, List.all_cons, List.all_nil, Sl.dp, Bool.and_true, Bool.true_and, and_self, and_true, true_and, if_true, if_false, ite_true, ite_false, Bool.false_eq_true, reduceCtorEq, reduceIte, Bool.not_true, Bool.not_false, gEq_str, gEq_int, gAdd_int, le_line, Nat.reduceLeDiff, Nat.reduceEqDiff, ne_eq, not_false_eq_true, cast_2, cast_3, cast_4, cast_5, cast_1, cast_0, eq_self, decide_true, decide_false, isi_tuple, dTup, flawS, wordN]
end Law10

set_option maxHeartbeats 2000000
namespace Law10
open PySem DL
set_option autoImplicit false
theorem flaw4_none (n : Int) (ts : List PyData) (f l : PyData) : isNone (flaw4 n ts f l) = (ts.all (dTask n) && (dStand n f && dStand n l)) := by
  have e : (numb ts).all (okT n) = ts.all (dTask n) := numb_all (dTask n) (okT n) (fun i y => rfl) ts
  unfold flaw4
  cases hx : (numb ts).find? (fun x => !okT n x) with
  | some x =>
    have : ts.all (dTask n) = false := by
      rw [← e, ← Bool.not_eq_true]
      intro z
      rw [(find_none_all (okT n) (numb ts)).mpr z] at hx
      cases hx
    rw [this]
    rfl
  | none =>
    have : ts.all (dTask n) = true := by
      rw [← e]
      exact (find_none_all (okT n) (numb ts)).mp hx
    rw [this]
    cases dStand n f <;> cases dStand n l <;> rfl
theorem e_is_sheet (v : PyData) (π : Pt) (h : SheetH v) : m_is_sheet [.d v] π = some (.bool (isNone (flawS v)), π) := by
  unfold m_is_sheet g_is_sheet
  cases v with
  | tuple xs =>
    by_cases hlen : xs.length = 5
    · obtain ⟨a, p, t, f, l, rfl⟩ := five hlen
      have h3 : (([a, p, t, f, l] : List PyData).length : Int) = 5 := rfl
      simp only [flawS, flaw5]
      cases a with
      | str w =>
        cases hw : decide (w = "sheet") with
        | false => simp only [mOf, mOfZ, mOfR, asRt, entry, List.length_cons, List.length_nil, List.replicate, List.cons_append, List.nil_append, Nat.reduceAdd, Nat.reduceSub, fV, fVx, fC, fB, fBN, fU, fUN, fL, fIsi, fAndV, fOrV, fNotV, fTv, asB, asL, asT, fNotT, fAndT, fOrT, fIf, fIfN, fCh, fCl, fClN, aNil, aD, aN, aP, fNil, fCons, fTup, fLst, sNil, sSeq, sSet, sSetM, sRet, sRetN, sIf, sBrk, sCnt, sDrop, sFor, rSeq, sFrz, iL, iT, iS, iE, iZ, iR1, iR2, oNone, oSome, fSlA, fSlL, fPot, sPot, gPot, sPotN, List.getElem?_cons_zero, List.getElem?_cons_succ, List.set_cons_zero, List.set_cons_succ, Option.bind_some, Option.map_some, Option.bind_none, Option.map_none, List.all_cons, List.all_nil, Sl.dp, Bool.and_true, Bool.true_and, and_self, and_true, true_and, if_true, if_false, ite_true, ite_false, Bool.false_eq_true, reduceCtorEq, reduceIte, Bool.not_true, Bool.not_false, gEq_str, gEq_int, gAdd_int, le_line, Nat.reduceLeDiff, Nat.reduceEqDiff, ne_eq, not_false_eq_true, cast_2, cast_3, cast_4, cast_5, cast_1, cast_0, eq_self, decide_true, decide_false, e_is_tuple, dTupN, h3, gIx_tup, atI_0, isi_str, dStr, hw, wordN, isNone]
        | true =>
          cases p with
          | int n =>
            cases hn : dIn 1 16 (.int n) with
            | false => simp only [mOf, mOfZ, mOfR, asRt, entry, List.length_cons, List.length_nil, List.replicate, List.cons_append, List.nil_append, Nat.reduceAdd, Nat.reduceSub, fV, fVx, fC, fB, fBN, fU, fUN, fL, fIsi, fAndV, fOrV, fNotV, fTv, asB, asL, asT, fNotT, fAndT, fOrT, fIf, fIfN, fCh, fCl, fClN, aNil, aD, aN, aP, fNil, fCons, fTup, fLst, sNil, sSeq, sSet, sSetM, sRet, sRetN, sIf, sBrk, sCnt, sDrop, sFor, rSeq, sFrz, iL, iT, iS, iE, iZ, iR1, iR2, oNone, oSome, fSlA, fSlL, fPot, sPot, gPot, sPotN, List.getElem?_cons_zero, List.getElem?_cons_succ, List.set_cons_zero, List.set_cons_succ, Option.bind_some, Option.map_some, Option.bind_none, Option.map_none, List.all_cons, List.all_nil, Sl.dp, Bool.and_true, Bool.true_and, and_self, and_true, true_and, if_true, if_false, ite_true, ite_false, Bool.false_eq_true, reduceCtorEq, reduceIte, Bool.not_true, Bool.not_false, gEq_str, gEq_int, gAdd_int, le_line, Nat.reduceLeDiff, Nat.reduceEqDiff, ne_eq, not_false_eq_true, cast_2, cast_3, cast_4, cast_5, cast_1, cast_0, eq_self, decide_true, decide_false, e_is_tuple, dTupN, h3, gIx_tup, atI_0, atI_1, isi_str, dStr, hw, wordN, e_is_within, hn, flaw2, isNone]
            | true =>
              cases t with
              | tuple ts =>
                cases ht : dIn 1 24 (.int ts.length) with
                | false =>
                  have e : (decide ((1 : Int) ≤ ts.length) && decide ((ts.length : Int) ≤ 24)) = false := ht
                  cases h1 : decide ((1 : Int) ≤ ts.length) with
                  | false => simp only [mOf, mOfZ, mOfR, asRt, entry, List.length_cons, List.length_nil, List.replicate, List.cons_append, List.nil_append, Nat.reduceAdd, Nat.reduceSub, fV, fVx, fC, fB, fBN, fU, fUN, fL, fIsi, fAndV, fOrV, fNotV, fTv, asB, asL, asT, fNotT, fAndT, fOrT, fIf, fIfN, fCh, fCl, fClN, aNil, aD, aN, aP, fNil, fCons, fTup, fLst, sNil, sSeq, sSet, sSetM, sRet, sRetN, sIf, sBrk, sCnt, sDrop, sFor, rSeq, sFrz, iL, iT, iS, iE, iZ, iR1, iR2, oNone, oSome, fSlA, fSlL, fPot, sPot, gPot, sPotN, List.getElem?_cons_zero, List.getElem?_cons_succ, List.set_cons_zero, List.set_cons_succ, Option.bind_some, Option.map_some, Option.bind_none, Option.map_none, List.all_cons, List.all_nil, Sl.dp, Bool.and_true, Bool.true_and, and_self, and_true, true_and, if_true, if_false, ite_true, ite_false, Bool.false_eq_true, reduceCtorEq, reduceIte, Bool.not_true, Bool.not_false, gEq_str, gEq_int, gAdd_int, le_line, Nat.reduceLeDiff, Nat.reduceEqDiff, ne_eq, not_false_eq_true, cast_2, cast_3, cast_4, cast_5, cast_1, cast_0, eq_self, decide_true, decide_false, e_is_tuple, dTupN, h3, gIx_tup, atI_0, atI_1, atI_2, isi_str, isi_tuple, dTup, dStr, hw, wordN, e_is_within, hn, flaw2, gLen_tup, gLe, gCmp, ht, h1, isNone]
                  | true =>
                    rw [h1] at e
                    have h2 : decide ((ts.length : Int) ≤ 24) = false := e
                    simp only [mOf, mOfZ, mOfR, asRt, entry, List.length_cons, List.length_nil, List.replicate, List.cons_append, List.nil_append, Nat.reduceAdd, Nat.reduceSub, fV, fVx, fC, fB, fBN, fU, fUN, fL, fIsi, fAndV, fOrV, fNotV, fTv, asB, asL, asT, fNotT, fAndT, fOrT, fIf, fIfN, fCh, fCl, fClN, aNil, aD, aN, aP, fNil, fCons, fTup, fLst, sNil, sSeq, sSet, sSetM, sRet, sRetN, sIf, sBrk, sCnt, sDrop, sFor, rSeq, sFrz, iL, iT, iS, iE, iZ, iR1, iR2, oNone, oSome, fSlA, fSlL, fPot, sPot, gPot, sPotN, List.getElem?_cons_zero, List.getElem?_cons_succ, List.set_cons_zero, List.set_cons_succ, Option.bind_some, Option.map_some, Option.bind_none, Option.map_none, List.all_cons, List.all_nil, Sl.dp, Bool.and_true, Bool.true_and, and_self, and_true, true_and, if_true, if_false, ite_true, ite_false, Bool.false_eq_true, reduceCtorEq, reduceIte, Bool.not_true, Bool.not_false, gEq_str, gEq_int, gAdd_int, le_line, Nat.reduceLeDiff, Nat.reduceEqDiff, ne_eq, not_false_eq_true, cast_2, cast_3, cast_4, cast_5, cast_1, cast_0, eq_self, decide_true, decide_false, e_is_tuple, dTupN, h3, gIx_tup, atI_0, atI_1, atI_2, isi_str, isi_tuple, dTup, dStr, hw, wordN, e_is_within, hn, flaw2, gLen_tup, gLe, gCmp, ht, h1, h2, isNone]
                | true =>
                  have e : (decide ((1 : Int) ≤ ts.length) && decide ((ts.length : Int) ≤ 24)) = true := ht
                  rw [Bool.and_eq_true] at e
                  obtain ⟨h1, h2⟩ := e
                  have h24 : ts.length ≤ sizeLine := by
                    have := of_decide_eq_true h2
                    rw [sizeLine_eq]; omega
                  have e3 := fun π => e_is_standing_of f n π fun xs e => h.fst _ _ _ xs _ (by rw [e])
                  have e4 := fun π => e_is_standing_of l n π fun xs e => h.lst _ _ _ _ xs (by rw [e])
                  simp only [mOf, mOfZ, mOfR, asRt, entry, List.length_cons, List.length_nil, List.replicate, List.cons_append, List.nil_append, Nat.reduceAdd, Nat.reduceSub, fV, fVx, fC, fB, fBN, fU, fUN, fL, fIsi, fAndV, fOrV, fNotV, fTv, asB, asL, asT, fNotT, fAndT, fOrT, fIf, fIfN, fCh, fCl, fClN, aNil, aD, aN, aP, fNil, fCons, fTup, fLst, sNil, sSeq, sSet, sSetM, sRet, sRetN, sIf, sBrk, sCnt, sDrop, sFor, rSeq, sFrz, iL, iT, iS, iE, iZ, iR1, iR2, oNone, oSome, fSlA, fSlL, fPot, sPot, gPot, sPotN, List.getElem?_cons_zero, List.getElem?_cons_succ, List.set_cons_zero, List.set_cons_succ, Option.bind_some, Option.map_some, Option.bind_none, Option.map_none, List.all_cons, List.all_nil, Sl.dp, Bool.and_true, Bool.true_and, and_self, and_true, true_and, if_true, if_false, ite_true, ite_false, Bool.false_eq_true, reduceCtorEq, reduceIte, Bool.not_true, Bool.not_false, gEq_str, gEq_int, gAdd_int, le_line, Nat.reduceLeDiff, Nat.reduceEqDiff, ne_eq, not_false_eq_true, cast_2, cast_3, cast_4, cast_5, cast_1, cast_0, eq_self, decide_true, decide_false, e_is_tuple, dTupN, h3, gIx_tup, atI_0, atI_1, atI_2, isi_str, isi_tuple, dTup, dStr, hw, wordN, e_is_within, hn, flaw2, gLen_tup, gLe, gCmp, ht, h1, h2]
                  rw [fLc_map (ds := ts) (π1 := π) (fun x => .bool (dTask n x)), flaw4_none]
                  · cases ha : ts.all (dTask n) <;> cases hf : dStand n f <;> cases hl : dStand n l <;> simp only [mOf, mOfZ, mOfR, asRt, entry, List.length_cons, List.length_nil, List.replicate, List.cons_append, List.nil_append, Nat.reduceAdd, Nat.reduceSub, fV, fVx, fC, fB, fBN, fU, fUN, fL, fIsi, fAndV, fOrV, fNotV, fTv, asB, asL, asT, fNotT, fAndT, fOrT, fIf, fIfN, fCh, fCl, fClN, aNil, aD, aN, aP, fNil, fCons, fTup, fLst, sNil, sSeq, sSet, sSetM, sRet, sRetN, sIf, sBrk, sCnt, sDrop, sFor, rSeq, sFrz, iL, iT, iS, iE, iZ, iR1, iR2, oNone, oSome, fSlA, fSlL, fPot, sPot, gPot, sPotN, List.getElem?_cons_zero, List.getElem?_cons_succ, List.set_cons_zero, List.set_cons_succ, Option.bind_some, Option.map_some, Option.bind_none, Option.map_none, List.all_cons, List.all_nil, Sl.dp, Bool.and_true, Bool.true_and, and_self, and_true, true_and, if_true, if_false, ite_true, ite_false, Bool.false_eq_true, reduceCtorEq, reduceIte, Bool.not_true, Bool.not_false, gEq_str, gEq_int, gAdd_int, le_line, Nat.reduceLeDiff, Nat.reduceEqDiff, ne_eq, not_false_eq_true, cast_2, cast_3, cast_4, cast_5, cast_1, cast_0, eq_self, decide_true, decide_false, gAll_map, ha, e3, e4, hf, hl, gIx_tup, atI_1, atI_3, atI_4, Bool.and_false, Bool.false_and]
                  · simp only [mOf, mOfZ, mOfR, asRt, entry, List.length_cons, List.length_nil, List.replicate, List.cons_append, List.nil_append, Nat.reduceAdd, Nat.reduceSub, fV, fVx, fC, fB, fBN, fU, fUN, fL, fIsi, fAndV, fOrV, fNotV, fTv, asB, asL, asT, fNotT, fAndT, fOrT, fIf, fIfN, fCh, fCl, fClN, aNil, aD, aN, aP, fNil, fCons, fTup, fLst, sNil, sSeq, sSet, sSetM, sRet, sRetN, sIf, sBrk, sCnt, sDrop, sFor, rSeq, sFrz, iL, iT, iS, iE, iZ, iR1, iR2, oNone, oSome, fSlA, fSlL, fPot, sPot, gPot, sPotN, List.getElem?_cons_zero, List.getElem?_cons_succ, List.set_cons_zero, List.set_cons_succ, Option.bind_some, Option.map_some, Option.bind_none, Option.map_none, List.all_cons, List.all_nil, Sl.dp, Bool.and_true, Bool.true_and, and_self, and_true, true_and, if_true, if_false, ite_true, ite_false, Bool.false_eq_true, reduceCtorEq, reduceIte, Bool.not_true, Bool.not_false, gEq_str, gEq_int, gAdd_int, le_line, Nat.reduceLeDiff, Nat.reduceEqDiff, ne_eq, not_false_eq_true, cast_2, cast_3, cast_4, cast_5, cast_1, cast_0, eq_self, decide_true, decide_false, gIx_tup, atI_2]
                  · exact h24
                  · intro x hx
                    have e5 := fun π => e_is_task x n π (h.tasks _ _ _ _ _ rfl x hx)
                    exact ⟨_, rfl, rfl, by simp only [mOf, mOfZ, mOfR, asRt, entry, List.length_cons, List.length_nil, List.replicate, List.cons_append, List.nil_append, Nat.reduceAdd, Nat.reduceSub, fV, fVx, fC, fB, fBN, fU, fUN, fL, fIsi, fAndV, fOrV, fNotV, fTv, asB, asL, asT, fNotT, fAndT, fOrT, fIf, fIfN, fCh, fCl, fClN, aNil, aD, aN, aP, fNil, fCons, fTup, fLst, sNil, sSeq, sSet, sSetM, sRet, sRetN, sIf, sBrk, sCnt, sDrop, sFor, rSeq, sFrz, iL, iT, iS, iE, iZ, iR1, iR2, oNone, oSome, fSlA, fSlL, fPot, sPot, gPot, sPotN, List.getElem?_cons_zero, List.getElem?_cons_succ, List.set_cons_zero, List.set_cons_succ, Option.bind_some, Option.map_some, Option.bind_none, Option.map_none, List.all_cons, List.all_nil, Sl.dp, Bool.and_true, Bool.true_and, and_self, and_true, true_and, if_true, if_false, ite_true, ite_false, Bool.false_eq_true, reduceCtorEq, reduceIte, Bool.not_true, Bool.not_false, gEq_str, gEq_int, gAdd_int, le_line, Nat.reduceLeDiff, Nat.reduceEqDiff, ne_eq, not_false_eq_true, cast_2, cast_3, cast_4, cast_5, cast_1, cast_0, eq_self, decide_true, decide_false, wipeE, e5, gIx_tup, atI_1]⟩
              | _ => simp only [mOf, mOfZ, mOfR, asRt, entry, List.length_cons, List.length_nil, List.replicate, List.cons_append, List.nil_append, Nat.reduceAdd, Nat.reduceSub, fV, fVx, fC, fB, fBN, fU, fUN, fL, fIsi, fAndV, fOrV, fNotV, fTv, asB, asL, asT, fNotT, fAndT, fOrT, fIf, fIfN, fCh, fCl, fClN, aNil, aD, aN, aP, fNil, fCons, fTup, fLst, sNil, sSeq, sSet, sSetM, sRet, sRetN, sIf, sBrk, sCnt, sDrop, sFor, rSeq, sFrz, iL, iT, iS, iE, iZ, iR1, iR2, oNone, oSome, fSlA, fSlL, fPot, sPot, gPot, sPotN, List.getElem?_cons_zero, List.getElem?_cons_succ, List.set_cons_zero, List.set_cons_succ, Option.bind_some, Option.map_some, Option.bind_none, Option.map_none, List.all_cons, List.all_nil, Sl.dp, Bool.and_true, Bool.true_and, and_self, and_true, true_and, if_true, if_false, ite_true, ite_false, Bool.false_eq_true, reduceCtorEq, reduceIte, Bool.not_true, Bool.not_false, gEq_str, gEq_int, gAdd_int, le_line, Nat.reduceLeDiff, Nat.reduceEqDiff, ne_eq, not_false_eq_true, cast_2, cast_3, cast_4, cast_5, cast_1, cast_0, eq_self, decide_true, decide_false, e_is_tuple, dTupN, h3, gIx_tup, atI_0, atI_1, atI_2, isi_str, isi_tuple, dTup, dStr, hw, wordN, e_is_within, hn, flaw2, isNone]
          | _ => simp only [mOf, mOfZ, mOfR, asRt, entry, List.length_cons, List.length_nil, List.replicate, List.cons_append, List.nil_append, Nat.reduceAdd, Nat.reduceSub, fV, fVx, fC, fB, fBN, fU, fUN, fL, fIsi, fAndV, fOrV, fNotV, fTv, asB, asL, asT, fNotT, fAndT, fOrT, fIf, fIfN, fCh, fCl, fClN, aNil, aD, aN, aP, fNil, fCons, fTup, fLst, sNil, sSeq, sSet, sSetM, sRet, sRetN, sIf, sBrk, sCnt, sDrop, sFor, rSeq, sFrz, iL, iT, iS, iE, iZ, iR1, iR2, oNone, oSome, fSlA, fSlL, fPot, sPot, gPot, sPotN, List.getElem?_cons_zero, List.getElem?_cons_succ, List.set_cons_zero, List.set_cons_succ, Option.bind_some, Option.map_some, Option.bind_none, Option.map_none, List.all_cons, List.all_nil, Sl.dp, Bool.and_true, Bool.true_and, and_self, and_true, true_and, if_true, if_false, ite_true, ite_false, Bool.false_eq_true, reduceCtorEq, reduceIte, Bool.not_true, Bool.not_false, gEq_str, gEq_int, gAdd_int, le_line, Nat.reduceLeDiff, Nat.reduceEqDiff, ne_eq, not_false_eq_true, cast_2, cast_3, cast_4, cast_5, cast_1, cast_0, eq_self, decide_true, decide_false, e_is_tuple, dTupN, h3, gIx_tup, atI_0, atI_1, isi_str, dStr, hw, wordN, e_is_within, dIn, flaw2, isNone]
      | _ => simp only [mOf, mOfZ, mOfR, asRt, entry, List.length_cons, List.length_nil, List.replicate, List.cons_append, List.nil_append, Nat.reduceAdd, Nat.reduceSub, fV, fVx, fC, fB, fBN, fU, fUN, fL, fIsi, fAndV, fOrV, fNotV, fTv, asB, asL, asT, fNotT, fAndT, fOrT, fIf, fIfN, fCh, fCl, fClN, aNil, aD, aN, aP, fNil, fCons, fTup, fLst, sNil, sSeq, sSet, sSetM, sRet, sRetN, sIf, sBrk, sCnt, sDrop, sFor, rSeq, sFrz, iL, iT, iS, iE, iZ, iR1, iR2, oNone, oSome, fSlA, fSlL, fPot, sPot, gPot, sPotN, List.getElem?_cons_zero, List.getElem?_cons_succ, List.set_cons_zero, List.set_cons_succ, Option.bind_some, Option.map_some, Option.bind_none, Option.map_none, List.all_cons, List.all_nil, Sl.dp, Bool.and_true, Bool.true_and, and_self, and_true, true_and, if_true, if_false, ite_true, ite_false, Bool.false_eq_true, reduceCtorEq, reduceIte, Bool.not_true, Bool.not_false, gEq_str, gEq_int, gAdd_int, le_line, Nat.reduceLeDiff, Nat.reduceEqDiff, ne_eq, not_false_eq_true, cast_2, cast_3, cast_4, cast_5, cast_1, cast_0, eq_self, decide_true, decide_false, e_is_tuple, dTupN, h3, gIx_tup, atI_0, isi_str, dStr, wordN, isNone]
    · have e : ¬ ((xs.length : Int) = 5) := by omega
      rw [flawS_len hlen]
      simp only [mOf, mOfZ, mOfR, asRt, entry, List.length_cons, List.length_nil, List.replicate, List.cons_append, List.nil_append, Nat.reduceAdd, Nat.reduceSub, fV, fVx, fC, fB, fBN, fU, fUN, fL, fIsi, fAndV, fOrV, fNotV, fTv, asB, asL, asT, fNotT, fAndT, fOrT, fIf, fIfN, fCh, fCl, fClN, aNil, aD, aN, aP, fNil, fCons, fTup, fLst, sNil, sSeq, sSet, sSetM, sRet, sRetN, sIf, sBrk, sCnt, sDrop, sFor, rSeq, sFrz, iL, iT, iS, iE, iZ, iR1, iR2, oNone, oSome, fSlA, fSlL, fPot, sPot, gPot, sPotN, List.getElem?_cons_zero, List.getElem?_cons_succ, List.set_cons_zero, List.set_cons_succ, Option.bind_some, Option.map_some, Option.bind_none, Option.map_none, List.all_cons, List.all_nil, Sl.dp, Bool.and_true, Bool.true_and, and_self, and_true, true_and, if_true, if_false, ite_true, ite_false, Bool.false_eq_true, reduceCtorEq, reduceIte, Bool.not_true, Bool.not_false, gEq_str, gEq_int, gAdd_int, le_line, Nat.reduceLeDiff, Nat.reduceEqDiff, ne_eq, not_false_eq_true, cast_2, cast_3, cast_4, cast_5, cast_1, cast_0, eq_self, decide_true, decide_false, e_is_tuple, dTupN, e, wordN, isNone]
  | _ => simp only [mOf, mOfZ, mOfR, asRt, entry, List.length_cons, List.length_nil, List.replicate, List.cons_append, List.nil_append, Nat.reduceAdd, Nat.reduceSub, fV, fVx, fC, fB, fBN, fU, fUN, fL, fIsi, fAndV, fOrV, fNotV, fTv, asB, asL, asT, fNotT, fAndT, fOrT, fIf, fIfN, fCh, fCl, fClN, aNil, aD, aN, aP, fNil, fCons, fTup, fLst, sNil, sSeq, sSet, sSetM, sRet, sRetN, sIf, sBrk, sCnt, sDrop, sFor, rSeq, sFrz, iL, iT, iS, iE, iZ, iR1, iR2, oNone, oSome, fSlA, fSlL, fPot, sPot, gPot, sPotN, List.getElem?_cons_zero, List.getElem?_cons_succ, List.set_cons_zero, List.set_cons_succ, Option.bind_some, Option.map_some, Option.bind_none, Option.map_none, List.all_cons, List.all_nil, Sl.dp, Bool.and_true, Bool.true_and, and_self, and_true, true_and, if_true, if_false, ite_true, ite_false, Bool.false_eq_true, reduceCtorEq, reduceIte, Bool.not_true, Bool.not_false, gEq_str, gEq_int, gAdd_int, le_line, Nat.reduceLeDiff, Nat.reduceEqDiff, ne_eq, not_false_eq_true, cast_2, cast_3, cast_4, cast_5, cast_1, cast_0, eq_self, decide_true, decide_false, e_is_tuple, dTupN, flawS, wordN, isNone]
/-! #### draws -/
theorem e_draw (π : Pt) (size : Int) (h1 : 1 ≤ size) (h2 : size < 1073741824) : ∃ d π', m__law_draw [.p, .d (.int size)] π = some (.int d, π') ∧ 0 ≤ d ∧ d < size := by
  unfold m__law_draw g__law_draw
  have hc : ∀ i, cDiv i size = true := fun i => by simp only [cDiv, Bool.and_eq_true, decide_eq_true_eq]; omega
  cases h : decide (0 < π.1) with
  | true =>
    refine ⟨π.1 % size, (π.1 / size, π.2), ?_, Int.emod_nonneg _ (by omega), Int.emod_lt_of_pos _ (by omega)⟩
    simp only [mOf, mOfZ, mOfR, asRt, entry, List.length_cons, List.length_nil, List.replicate, List.cons_append, List.nil_append, Nat.reduceAdd, Nat.reduceSub, fV, fVx, fC, fB, fBN, fU, fUN, fL, fIsi, fAndV, fOrV, fNotV, fTv, asB, asL, asT, fNotT, fAndT, fOrT, fIf, fIfN, fCh, fCl, fClN, aNil, aD, aN, aP, fNil, fCons, fTup, fLst, sNil, sSeq, sSet, sSetM, sRet, sRetN, sIf, sBrk, sCnt, sDrop, sFor, rSeq, sFrz, iL, iT, iS, iE, iZ, iR1, iR2, oNone, oSome, fSlA, fSlL, fPot, sPot, gPot, sPotN, List.getElem?_cons_zero, List.getElem?_cons_succ, List.set_cons_zero, List.set_cons_succ, Option.bind_some, Option.map_some, Option.bind_none, Option.map_none, List.all_cons, List.all_nil, Sl.dp, Bool.and_true, Bool.true_and, and_self, and_true, true_and, if_true, if_false, ite_true, ite_false, Bool.false_eq_true, reduceCtorEq, reduceIte, Bool.not_true, Bool.not_false, gEq_str, gEq_int, gAdd_int, le_line, Nat.reduceLeDiff, Nat.reduceEqDiff, ne_eq, not_false_eq_true, cast_2, cast_3, cast_4, cast_5, cast_1, cast_0, eq_self, decide_true, decide_false, gGt, gCmp, h, gDivmod, hc]
  | false =>
    have c1 : cMul π.2 40692 = true := by simp [cMul]
    have hr : ∀ x : Int, 0 ≤ x % 2147483587 ∧ x % 2147483587 < 2147483587 := fun x => ⟨Int.emod_nonneg _ (by omega), Int.emod_lt_of_pos _ (by omega)⟩
    have c2 : ∀ x : Int, cMul (x % 2147483587) (x % 2147483587) = true := fun x => by
      have := hr x
      simp only [cMul, Bool.or_eq_true, Bool.and_eq_true, decide_eq_true_eq]
      omega
    have c3 : ∀ i, cDiv i 19 = true := fun i => by simp [cDiv]
    have c4 : decide (0 < size) = true := by simp; omega
    have n1 : ((1 : Int) = 0) = False := by simp
    have c5 : decide ((0 : Int) < 2147483587) = true := rfl
    have c6 : decide ((0 : Int) < 2147483549) = true := rfl
    refine ⟨(((π.2 * 40692 + 7561) % 2147483587 * ((π.2 * 40692 + 7561) % 2147483587)) % 2147483549 / 19) % size, (π.1, (π.2 * 40692 + 7561) % 2147483587), ?_, Int.emod_nonneg _ (by omega), Int.emod_lt_of_pos _ (by omega)⟩
    · simp only [mOf, mOfZ, mOfR, asRt, entry, List.length_cons, List.length_nil, List.replicate, List.cons_append, List.nil_append, Nat.reduceAdd, Nat.reduceSub, fV, fVx, fC, fB, fBN, fU, fUN, fL, fIsi, fAndV, fOrV, fNotV, fTv, asB, asL, asT, fNotT, fAndT, fOrT, fIf, fIfN, fCh, fCl, fClN, aNil, aD, aN, aP, fNil, fCons, fTup, fLst, sNil, sSeq, sSet, sSetM, sRet, sRetN, sIf, sBrk, sCnt, sDrop, sFor, rSeq, sFrz, iL, iT, iS, iE, iZ, iR1, iR2, oNone, oSome, fSlA, fSlL, fPot, sPot, gPot, sPotN, List.getElem?_cons_zero, List.getElem?_cons_succ, List.set_cons_zero, List.set_cons_succ, Option.bind_some, Option.map_some, Option.bind_none, Option.map_none, List.all_cons, List.all_nil, Sl.dp, Bool.and_true, Bool.true_and, and_self, and_true, true_and, if_true, if_false, ite_true, ite_false, Bool.false_eq_true, reduceCtorEq, reduceIte, Bool.not_true, Bool.not_false, gEq_str, gEq_int, gAdd_int, le_line, Nat.reduceLeDiff, Nat.reduceEqDiff, ne_eq, not_false_eq_true, cast_2, cast_3, cast_4, cast_5, cast_1, cast_0, eq_self, decide_true, decide_false, gGt, gCmp, h, gMul, gMulI, gI, c1, gAdd, gInt, gMod, cMod, c2, gDiv, c3, c4, n1, c5, c6]
end Law10

set_option maxHeartbeats 2000000
namespace Law10
open PySem DL
set_option autoImplicit false
theorem e_pick (π : Pt) (xs : List PyData) (h : xs ≠ []) (hl : xs.length ≤ 1000) : ∃ x π', m__law_pick [.p, .d (.list xs)] π = some (x, π') ∧ x ∈ xs := by
  have h0 : 0 < xs.length := List.length_pos_iff.mpr h
  obtain ⟨d, π', e, h1, h2⟩ := e_draw π xs.length (by omega) (by omega)
  have hd : d.toNat < xs.length := by omega
  refine ⟨xs[d.toNat], π', ?_, List.getElem_mem _⟩
  unfold m__law_pick g__law_pick
  have e2 : L2.atI xs d = some xs[d.toNat] := by
    rw [atI_pos _ h1, List.getElem?_eq_getElem hd]
  simp only [mOf, mOfZ, mOfR, asRt, entry, List.length_cons, List.length_nil, List.replicate, List.cons_append, List.nil_append, Nat.reduceAdd, Nat.reduceSub, fV, fVx, fC, fB, fBN, fU, fUN, fL, fIsi, fAndV, fOrV, fNotV, fTv, asB, asL, asT, fNotT, fAndT, fOrT, fIf, fIfN, fCh, fCl, fClN, aNil, aD, aN, aP, fNil, fCons, fTup, fLst, sNil, sSeq, sSet, sSetM, sRet, sRetN, sIf, sBrk, sCnt, sDrop, sFor, rSeq, sFrz, iL, iT, iS, iE, iZ, iR1, iR2, oNone, oSome, fSlA, fSlL, fPot, sPot, gPot, sPotN, List.getElem?_cons_zero, List.getElem?_cons_succ, List.set_cons_zero, List.set_cons_succ, Option.bind_some, Option.map_some, Option.bind_none, Option.map_none, List.all_cons, List.all_nil, Sl.dp, Bool.and_true, Bool.true_and, and_self, and_true, true_and, if_true, if_false, ite_true, ite_false, Bool.false_eq_true, reduceCtorEq, reduceIte, Bool.not_true, Bool.not_false, gEq_str, gEq_int, gAdd_int, le_line, Nat.reduceLeDiff, Nat.reduceEqDiff, ne_eq, not_false_eq_true, cast_2, cast_3, cast_4, cast_5, cast_1, cast_0, eq_self, decide_true, decide_false, gLen_lst, e, gIx_lst, e2]
theorem e_pot (ns : List Int) (k : Int) (hk : 0 ≤ k) (hk2 : k ≤ 1000) (π : Pt) : ∃ a b, m__law_pot [.d (.list (ns.map PyData.int)), .d (.int k)] π = some ([.int a, .int b], π) := by
  unfold m__law_pot g__law_pot
  have p1 : cPow 10 18 = true := by decide +kernel
  have m1 : ∀ i, cMul i 41651 = true := fun i => by simp [cMul]
  have m2 : ∀ i, cMul 7561 i = true := fun i => by simp [cMul]
  have m3 : ∀ i, cMul 1091 i = true := fun i => by simp [cMul]
  have d1 : decide ((0 : Int) < 2147483549) = true := rfl
  have d2 : decide ((0 : Int) < 2147483563) = true := rfl
  have d3 : decide ((0 : Int) < 1000003) = true := rfl
  cases h : decide (k < ((ns.map PyData.int).length : Int)) with
  | true =>
    have hl : k.toNat < ns.length := by
      have := of_decide_eq_true h
      rw [List.length_map] at this
      omega
    have e2 : L2.atI (ns.map PyData.int) k = some (.int ns[k.toNat]) := by
      rw [atI_pos _ hk, List.getElem?_map, List.getElem?_eq_getElem hl]
      rfl
    simp only [mOf, mOfZ, mOfR, asRt, entry, List.length_cons, List.length_nil, List.replicate, List.cons_append, List.nil_append, Nat.reduceAdd, Nat.reduceSub, fV, fVx, fC, fB, fBN, fU, fUN, fL, fIsi, fAndV, fOrV, fNotV, fTv, asB, asL, asT, fNotT, fAndT, fOrT, fIf, fIfN, fCh, fCl, fClN, aNil, aD, aN, aP, fNil, fCons, fTup, fLst, sNil, sSeq, sSet, sSetM, sRet, sRetN, sIf, sBrk, sCnt, sDrop, sFor, rSeq, sFrz, iL, iT, iS, iE, iZ, iR1, iR2, oNone, oSome, fSlA, fSlL, fPot, sPot, gPot, sPotN, List.getElem?_cons_zero, List.getElem?_cons_succ, List.set_cons_zero, List.set_cons_succ, Option.bind_some, Option.map_some, Option.bind_none, Option.map_none, List.all_cons, List.all_nil, Sl.dp, Bool.and_true, Bool.true_and, and_self, and_true, true_and, if_true, if_false, ite_true, ite_false, Bool.false_eq_true, reduceCtorEq, reduceIte, Bool.not_true, Bool.not_false, gEq_str, gEq_int, gAdd_int, le_line, Nat.reduceLeDiff, Nat.reduceEqDiff, ne_eq, not_false_eq_true, cast_2, cast_3, cast_4, cast_5, cast_1, cast_0, eq_self, decide_true, decide_false, gLt, gCmp, gLen_lst, h, gIx_lst, e2, gAbs, gMax2, gSubI, gPow, gI, p1, gAdd, gMod, cMod, gInt, gMul, gMulI, m1, m2, d1, d2]
    exact ⟨_, _, rfl⟩
  | false =>
    have e4 : cutD (ns.map PyData.int) none (some 1) = (ns.take 1).map PyData.int := by
      rw [List.map_take]; exact cutD_to _ 1
    simp only [mOf, mOfZ, mOfR, asRt, entry, List.length_cons, List.length_nil, List.replicate, List.cons_append, List.nil_append, Nat.reduceAdd, Nat.reduceSub, fV, fVx, fC, fB, fBN, fU, fUN, fL, fIsi, fAndV, fOrV, fNotV, fTv, asB, asL, asT, fNotT, fAndT, fOrT, fIf, fIfN, fCh, fCl, fClN, aNil, aD, aN, aP, fNil, fCons, fTup, fLst, sNil, sSeq, sSet, sSetM, sRet, sRetN, sIf, sBrk, sCnt, sDrop, sFor, rSeq, sFrz, iL, iT, iS, iE, iZ, iR1, iR2, oNone, oSome, fSlA, fSlL, fPot, sPot, gPot, sPotN, List.getElem?_cons_zero, List.getElem?_cons_succ, List.set_cons_zero, List.set_cons_succ, Option.bind_some, Option.map_some, Option.bind_none, Option.map_none, List.all_cons, List.all_nil, Sl.dp, Bool.and_true, Bool.true_and, and_self, and_true, true_and, if_true, if_false, ite_true, ite_false, Bool.false_eq_true, reduceCtorEq, reduceIte, Bool.not_true, Bool.not_false, gEq_str, gEq_int, gAdd_int, le_line, Nat.reduceLeDiff, Nat.reduceEqDiff, ne_eq, not_false_eq_true, cast_2, cast_3, cast_4, cast_5, cast_1, cast_0, eq_self, decide_true, decide_false, gLt, gCmp, gLen_lst, h, e4, gSum, ints_map, gMax2, gSubI, gPow, gI, p1, gAdd, gMod, cMod, gInt, gMul, gMulI, m1, m2, m3, d1, d2, d3]
    exact ⟨_, _, rfl⟩
theorem e_lot (π : Pt) (p q : Int) (hp : 1 ≤ p) (hp2 : p ≤ 16) (hq : 0 ≤ q) (hq2 : q ≤ 2) : ∃ ns π', m__law_lot [.p, .d (.int p), .d (.int q)] π = some (.tuple (ns.map PyData.int), π') ∧ riseI ns = true ∧ (∀ n ∈ ns, 0 ≤ n ∧ n ≤ p - 1) ∧ (ns.length : Int) ≤ q ∧ (1 ≤ q → ns ≠ []) := by
  obtain ⟨r1, r2⟩ := rng (n := q) (by omega) (by omega)
  have key := forM_inv (t := tName 4) (g := sSeq (sSet 5 (fCl 2 m__law_draw (aP 0 (aD (fV 1) aNil)))) (sExt 3 (fIfN (fTv (fB (gIn true) (fVx 5) (fVx 3))) (fLst (fCons (fV 5) fNil)) (fLst fNil))))
    (fun i ρ => ∃ (ns : List Int) (s4 s5 : Sl), ρ = [.p, .d (.int p), .d (.int q), .m (ns.map PyData.int), s4, s5] ∧ ns.Nodup ∧ ns.length ≤ i ∧ (1 ≤ i → ns ≠ []) ∧ ∀ n ∈ ns, 0 ≤ n ∧ n ≤ p - 1)
    (upTo 0 q.toNat) 0 [.p, .d (.int p), .d (.int q), .m [], .e, .e] π ⟨[], .e, .e, rfl, List.nodup_nil, Nat.le_refl _, fun h => absurd h (by omega), fun n h => nomatch h⟩ (by
      rintro j x hx ρ π ⟨ns, s4, s5, rfl, h1, h2, h3, h4⟩
      obtain ⟨rfl, hj⟩ := upTo_get hx
      obtain ⟨d, π', e, d1, d2⟩ := e_draw π p hp (by omega)
      have hlen : ns.length ≤ 1000 := by omega
      have hl1 : (ns.map PyData.int).length + 1 ≤ sizeLine := by rw [List.length_map, sizeLine_eq]; omega
      have hl0 : (ns.map PyData.int).length ≤ sizeLine := by rw [List.length_map, sizeLine_eq]; omega
      refine ⟨[.p, .d (.int p), .d (.int q), .m (ns.map PyData.int), .d (.int (0 + (j : Int))), s5], ?_⟩
      cases hin : decide (d ∈ ns) with
      | true =>
        refine ⟨[.p, .d (.int p), .d (.int q), .m (ns.map PyData.int), .d (.int (0 + (j : Int))), .d (.int d)], π', by simp only [mOf, mOfZ, mOfR, asRt, entry, List.length_cons, List.length_nil, List.replicate, List.cons_append, List.nil_append, Nat.reduceAdd, Nat.reduceSub, fV, fVx, fC, fB, fBN, fU, fUN, fL, fIsi, fAndV, fOrV, fNotV, fTv, asB, asL, asT, fNotT, fAndT, fOrT, fIf, fIfN, fCh, fCl, fClN, aNil, aD, aN, aP, fNil, fCons, fTup, fLst, sNil, sSeq, sSet, sSetM, sRet, sRetN, sIf, sBrk, sCnt, sDrop, sFor, rSeq, sFrz, iL, iT, iS, iE, iZ, iR1, iR2, oNone, oSome, fSlA, fSlL, fPot, sPot, gPot, sPotN, List.getElem?_cons_zero, List.getElem?_cons_succ, List.set_cons_zero, List.set_cons_succ, Option.bind_some, Option.map_some, Option.bind_none, Option.map_none, List.all_cons, List.all_nil, Sl.dp, Bool.and_true, Bool.true_and, and_self, and_true, true_and, if_true, if_false, ite_true, ite_false, Bool.false_eq_true, reduceCtorEq, reduceIte, Bool.not_true, Bool.not_false, gEq_str, gEq_int, gAdd_int, le_line, Nat.reduceLeDiff, Nat.reduceEqDiff, ne_eq, not_false_eq_true, cast_2, cast_3, cast_4, cast_5, cast_1, cast_0, eq_self, decide_true, decide_false, tName], ?_, ns, _, _, rfl, h1, by omega, fun _ z => ?_, h4⟩
        · simp only [mOf, mOfZ, mOfR, asRt, entry, List.length_cons, List.length_nil, List.replicate, List.cons_append, List.nil_append, Nat.reduceAdd, Nat.reduceSub, fV, fVx, fC, fB, fBN, fU, fUN, fL, fIsi, fAndV, fOrV, fNotV, fTv, asB, asL, asT, fNotT, fAndT, fOrT, fIf, fIfN, fCh, fCl, fClN, aNil, aD, aN, aP, fNil, fCons, fTup, fLst, sNil, sSeq, sSet, sSetM, sRet, sRetN, sIf, sBrk, sCnt, sDrop, sFor, rSeq, sFrz, iL, iT, iS, iE, iZ, iR1, iR2, oNone, oSome, fSlA, fSlL, fPot, sPot, gPot, sPotN, List.getElem?_cons_zero, List.getElem?_cons_succ, List.set_cons_zero, List.set_cons_succ, Option.bind_some, Option.map_some, Option.bind_none, Option.map_none, List.all_cons, List.all_nil, Sl.dp, Bool.and_true, Bool.true_and, and_self, and_true, true_and, if_true, if_false, ite_true, ite_false, Bool.false_eq_true, reduceCtorEq, reduceIte, Bool.not_true, Bool.not_false, gEq_str, gEq_int, gAdd_int, le_line, Nat.reduceLeDiff, Nat.reduceEqDiff, ne_eq, not_false_eq_true, cast_2, cast_3, cast_4, cast_5, cast_1, cast_0, eq_self, decide_true, decide_false, e, gIn_ints, hin, sExt, List.append_nil, Nat.add_zero, hl0]
        · have := of_decide_eq_true hin
          rw [z] at this
          cases this
      | false =>
        refine ⟨[.p, .d (.int p), .d (.int q), .m ((ns ++ [d]).map PyData.int), .d (.int (0 + (j : Int))), .d (.int d)], π', by simp only [mOf, mOfZ, mOfR, asRt, entry, List.length_cons, List.length_nil, List.replicate, List.cons_append, List.nil_append, Nat.reduceAdd, Nat.reduceSub, fV, fVx, fC, fB, fBN, fU, fUN, fL, fIsi, fAndV, fOrV, fNotV, fTv, asB, asL, asT, fNotT, fAndT, fOrT, fIf, fIfN, fCh, fCl, fClN, aNil, aD, aN, aP, fNil, fCons, fTup, fLst, sNil, sSeq, sSet, sSetM, sRet, sRetN, sIf, sBrk, sCnt, sDrop, sFor, rSeq, sFrz, iL, iT, iS, iE, iZ, iR1, iR2, oNone, oSome, fSlA, fSlL, fPot, sPot, gPot, sPotN, List.getElem?_cons_zero, List.getElem?_cons_succ, List.set_cons_zero, List.set_cons_succ, Option.bind_some, Option.map_some, Option.bind_none, Option.map_none, List.all_cons, List.all_nil, Sl.dp, Bool.and_true, Bool.true_and, and_self, and_true, true_and, if_true, if_false, ite_true, ite_false, Bool.false_eq_true, reduceCtorEq, reduceIte, Bool.not_true, Bool.not_false, gEq_str, gEq_int, gAdd_int, le_line, Nat.reduceLeDiff, Nat.reduceEqDiff, ne_eq, not_false_eq_true, cast_2, cast_3, cast_4, cast_5, cast_1, cast_0, eq_self, decide_true, decide_false, tName], ?_, ns ++ [d], _, _, rfl, ?_, ?_, fun _ z => ?_, fun n hn => ?_⟩
        · simp only [mOf, mOfZ, mOfR, asRt, entry, List.length_cons, List.length_nil, List.replicate, List.cons_append, List.nil_append, Nat.reduceAdd, Nat.reduceSub, fV, fVx, fC, fB, fBN, fU, fUN, fL, fIsi, fAndV, fOrV, fNotV, fTv, asB, asL, asT, fNotT, fAndT, fOrT, fIf, fIfN, fCh, fCl, fClN, aNil, aD, aN, aP, fNil, fCons, fTup, fLst, sNil, sSeq, sSet, sSetM, sRet, sRetN, sIf, sBrk, sCnt, sDrop, sFor, rSeq, sFrz, iL, iT, iS, iE, iZ, iR1, iR2, oNone, oSome, fSlA, fSlL, fPot, sPot, gPot, sPotN, List.getElem?_cons_zero, List.getElem?_cons_succ, List.set_cons_zero, List.set_cons_succ, Option.bind_some, Option.map_some, Option.bind_none, Option.map_none, List.all_cons, List.all_nil, Sl.dp, Bool.and_true, Bool.true_and, and_self, and_true, true_and, if_true, if_false, ite_true, ite_false, Bool.false_eq_true, reduceCtorEq, reduceIte, Bool.not_true, Bool.not_false, gEq_str, gEq_int, gAdd_int, le_line, Nat.reduceLeDiff, Nat.reduceEqDiff, ne_eq, not_false_eq_true, cast_2, cast_3, cast_4, cast_5, cast_1, cast_0, eq_self, decide_true, decide_false, e, gIn_ints, hin, sExt, hl1, List.map_append, List.map_cons, List.map_nil]
        · rw [List.nodup_append]
          refine ⟨h1, List.nodup_cons.mpr ⟨by simp, List.nodup_nil⟩, ?_⟩
          intro a ha b hb
          rw [List.mem_singleton] at hb
          subst hb
          intro z
          subst z
          exact of_decide_eq_false hin ha
        · rw [List.length_append]; simp; omega
        · simp at z
        · rcases List.mem_append.mp hn with z | z
          · exact h4 n z
          · rw [List.mem_singleton] at z
            omega)
  obtain ⟨ρ', π', e, ns, s4, s5, rfl, h1, h2, h3, h4⟩ := key
  rw [upTo_length] at h2 h3
  have hs := srtI_perm ns
  refine ⟨srtI ns, π', ?_, ?_, fun n hn => h4 n (hs.mem_iff.mp hn), by rw [hs.length_eq]; omega, fun hq z => ?_⟩
  · unfold m__law_lot g__law_lot
    simp only [mOf, mOfZ, mOfR, asRt, entry, List.length_cons, List.length_nil, List.replicate, List.cons_append, List.nil_append, Nat.reduceAdd, Nat.reduceSub, fV, fVx, fC, fB, fBN, fU, fUN, fL, fIsi, fAndV, fOrV, fNotV, fTv, asB, asL, asT, fNotT, fAndT, fOrT, fIf, fIfN, fCh, fCl, fClN, aNil, aD, aN, aP, fNil, fCons, fTup, fLst, sNil, sSeq, sSet, sSetM, sRet, sRetN, sIf, sBrk, sCnt, sDrop, sFor, rSeq, sFrz, iL, iT, iS, iE, iZ, iR1, iR2, oNone, oSome, fSlA, fSlL, fPot, sPot, gPot, sPotN, List.getElem?_cons_zero, List.getElem?_cons_succ, List.set_cons_zero, List.set_cons_succ, Option.bind_some, Option.map_some, Option.bind_none, Option.map_none, List.all_cons, List.all_nil, Sl.dp, Bool.and_true, Bool.true_and, and_self, and_true, true_and, if_true, if_false, ite_true, ite_false, Bool.false_eq_true, reduceCtorEq, reduceIte, Bool.not_true, Bool.not_false, gEq_str, gEq_int, gAdd_int, le_line, Nat.reduceLeDiff, Nat.reduceEqDiff, ne_eq, not_false_eq_true, cast_2, cast_3, cast_4, cast_5, cast_1, cast_0, eq_self, decide_true, decide_false, r1, r2, e, gSortI, ints_map, gTuple]
  · rw [riseI_lt]
    exact sorted_lt (srtI_sorted ns) (hs.nodup_iff.mpr h1)
  · have e0 := hs.length_eq
    rw [z] at e0
    exact h3 (by omega) (List.length_eq_zero_iff.mp e0.symm)
end Law10

set_option maxHeartbeats 2000000
namespace Law10
open PySem DL
set_option autoImplicit false
def small2 (y : PyData) : Prop := ∃ i : Int, y = .int i ∧ 0 ≤ i ∧ i ≤ 2
abbrev names6 : List PyData := [.str "", .str "a", .str "b", .str "c", .str "a2", .str "look_at"]
structure TG (p : Int) (t : PyData) : Prop where
  ex : ∃ (nm : PyData) (n1 n2 : List Int), t = .tuple [nm, .tuple (n1.map PyData.int), .tuple (n2.map PyData.int)] ∧ nm ∈ names6 ∧ riseI n1 = true ∧ (∀ n ∈ n1, 0 ≤ n ∧ n ≤ p - 1) ∧ n1.length ≤ 2 ∧ n1 ≠ [] ∧ riseI n2 = true ∧ (∀ n ∈ n2, 0 ≤ n ∧ n ≤ p - 1) ∧ n2.length ≤ 2
structure GS (p : Int) (ts fs ls : List PyData) : Prop where
  p1 : 1 ≤ p
  p2 : p ≤ 16
  t1 : 1 ≤ ts.length
  t2 : ts.length ≤ 24
  tg : ∀ t ∈ ts, TG p t
  f1 : (fs.length : Int) = p
  f2 : ∀ x ∈ fs, small2 x
  l1 : (ls.length : Int) = p
  l2 : ∀ x ∈ ls, small2 x
theorem sizes_ok (w da db dc : Int) (pk : PyData) (hw : 0 ≤ w ∧ w < 4) (ha : 0 ≤ da ∧ da < 2) (hb : 0 ≤ db ∧ db < 3) (hc : 0 ≤ dc ∧ dc < 2) (hp : pk ∈ ([.tuple [.int 1, .int 2], .tuple [.int 2, .int 1], .tuple [.int 1, .int 1]] : List PyData)) :
    ∃ a b, L2.atI [.tuple [.int (1 + da), .int db], .tuple [.int 1, .int 1], pk, .tuple [.int 1, .int (1 + dc)]] w = some (.tuple [.int a, .int b]) ∧ 1 ≤ a ∧ a ≤ 2 ∧ 0 ≤ b ∧ b ≤ 2 := by
  rcases (by omega : w = 0 ∨ w = 1 ∨ w = 2 ∨ w = 3) with rfl | rfl | rfl | rfl
  · exact ⟨1 + da, db, by rw [atI_0]; rfl, by omega, by omega, by omega, by omega⟩
  · exact ⟨1, 1, by rw [atI_1]; rfl, by omega, by omega, by omega, by omega⟩
  · simp only [List.mem_cons, List.not_mem_nil, or_false] at hp
    rcases hp with rfl | rfl | rfl
    · exact ⟨1, 2, by rw [atI_2]; rfl, by omega, by omega, by omega, by omega⟩
    · exact ⟨2, 1, by rw [atI_2]; rfl, by omega, by omega, by omega, by omega⟩
    · exact ⟨1, 1, by rw [atI_2]; rfl, by omega, by omega, by omega, by omega⟩
  · exact ⟨1, 1 + dc, by rw [atI_3]; rfl, by omega, by omega, by omega, by omega⟩
theorem e_sheet (π : Pt) (most many : Int) (h1 : 1 ≤ most) (h2 : most ≤ 16) (h3 : 1 ≤ many) (h4 : many ≤ 24) :
    ∃ p ts fs ls π', m__law_sheet [.p, .d (.int most), .d (.int many)] π = some (.tuple [.str "sheet", .int p, .tuple ts, .tuple fs, .tuple ls], π') ∧ GS p ts fs ls := by
  obtain ⟨d0, π0, e0, z1, z2⟩ := e_draw π most h1 (by omega)
  obtain ⟨w, π1, e1, w1, w2⟩ := e_draw π0 4 (by omega) (by omega)
  obtain ⟨dn, π2, e2, y1, y2⟩ := e_draw π1 many h3 (by omega)
  have hp : 1 ≤ 1 + d0 ∧ 1 + d0 ≤ 16 := by omega
  generalize hpe : 1 + d0 = p at *
  obtain ⟨r1, r2⟩ := rng (n := 1 + dn) (by omega) (by omega)
  obtain ⟨r3, r4⟩ := rng (n := p) (by omega) (by omega)
  have key := forM_inv (t := tName 6) (g := (sSeq (sSet 7 (fCl 2 m__law_pick (aP 0 (aD (fL (fLst (fCons (fC (.str "")) (fCons (fC (.str "a")) (fCons (fC (.str "b")) (fCons (fC (.str "c")) (fCons (fC (.str "a2")) (fCons (fC (.str "look_at")) fNil)))))))) aNil)))) (sSeq (sSet 8 (fB gIx (fL (fLst (fCons (fTup (fCons (fB gAdd (fC (.int 1)) (fCl 2 m__law_draw (aP 0 (aD (fC (.int 2)) aNil)))) (fCons (fCl 2 m__law_draw (aP 0 (aD (fC (.int 3)) aNil))) fNil))) (fCons (fTup (fCons (fC (.int 1)) (fCons (fC (.int 1)) fNil))) (fCons (fCl 2 m__law_pick (aP 0 (aD (fL (fLst (fCons (fTup (fCons (fC (.int 1)) (fCons (fC (.int 2)) fNil))) (fCons (fTup (fCons (fC (.int 2)) (fCons (fC (.int 1)) fNil))) (fCons (fTup (fCons (fC (.int 1)) (fCons (fC (.int 1)) fNil))) fNil))))) aNil))) (fCons (fTup (fCons (fC (.int 1)) (fCons (fB gAdd (fC (.int 1)) (fCl 2 m__law_draw (aP 0 (aD (fC (.int 2)) aNil)))) fNil))) fNil)))))) (fVx 4))) (sApp 5 (fTup (fCons (fV 7) (fCons (fCl 3 m__law_lot (aP 0 (aD (fV 3) (aD (fB gIx (fVx 8) (fC (.int 0))) aNil)))) (fCons (fCl 3 m__law_lot (aP 0 (aD (fV 3) (aD (fB gIx (fVx 8) (fC (.int 1))) aNil)))) fNil))))))))
    (fun i ρ => ∃ (ts : List PyData) (s6 s7 s8 : Sl), ρ = [.p, .d (.int most), .d (.int many), .d (.int p), .d (.int w), .m ts, s6, s7, s8, .e, .e] ∧ ts.length = i ∧ ∀ t ∈ ts, TG p t)
    (upTo 0 (1 + dn).toNat) 0 [.p, .d (.int most), .d (.int many), .d (.int p), .d (.int w), .m [], .e, .e, .e, .e, .e] π2 ⟨[], .e, .e, .e, rfl, rfl, fun n h => nomatch h⟩ (by
      rintro j x hx ρ π ⟨ts, s6, s7, s8, rfl, hl, ht⟩
      obtain ⟨rfl, hj⟩ := upTo_get hx
      obtain ⟨nm, π1, e1, m1⟩ := e_pick π names6 (by simp) (by simp)
      obtain ⟨da, π2, e2, a1, a2⟩ := e_draw π1 2 (by omega) (by omega)
      obtain ⟨db, π3, e3, b1, b2⟩ := e_draw π2 3 (by omega) (by omega)
      obtain ⟨pk, π4, e4, m4⟩ := e_pick π3 [.tuple [.int 1, .int 2], .tuple [.int 2, .int 1], .tuple [.int 1, .int 1]] (by simp) (by simp)
      obtain ⟨dc, π5, e5, c1, c2⟩ := e_draw π4 2 (by omega) (by omega)
      obtain ⟨a, b, e6, q1, q2, q3, q4⟩ := sizes_ok w da db dc pk ⟨w1, w2⟩ ⟨a1, a2⟩ ⟨b1, b2⟩ ⟨c1, c2⟩ m4
      obtain ⟨n1, π6, e7, u1, u2, u3, u4⟩ := e_lot π5 p a (by omega) (by omega) (by omega) (by omega)
      obtain ⟨n2, π7, e8, v1, v2, v3, v4⟩ := e_lot π6 p b (by omega) (by omega) (by omega) (by omega)
      have hlt := lt_line1 (n := ts.length) (by omega)
      refine ⟨[.p, .d (.int most), .d (.int many), .d (.int p), .d (.int w), .m ts, .d (.int (0 + (j : Int))), s7, s8, .e, .e], [.p, .d (.int most), .d (.int many), .d (.int p), .d (.int w), .m (ts ++ [.tuple [nm, .tuple (n1.map PyData.int), .tuple (n2.map PyData.int)]]), .d (.int (0 + (j : Int))), .d nm, .d (.tuple [.int a, .int b]), .e, .e], π7, by simp only [mOf, mOfZ, mOfR, asRt, entry, List.length_cons, List.length_nil, List.replicate, List.cons_append, List.nil_append, Nat.reduceAdd, Nat.reduceSub, fV, fVx, fC, fB, fBN, fU, fUN, fL, fIsi, fAndV, fOrV, fNotV, fTv, asB, asL, asT, fNotT, fAndT, fOrT, fIf, fIfN, fCh, fCl, fClN, aNil, aD, aN, aP, fNil, fCons, fTup, fLst, sNil, sSeq, sSet, sSetM, sRet, sRetN, sIf, sBrk, sCnt, sDrop, sFor, rSeq, sFrz, iL, iT, iS, iE, iZ, iR1, iR2, oNone, oSome, fSlA, fSlL, fPot, sPot, gPot, sPotN, List.getElem?_cons_zero, List.getElem?_cons_succ, List.set_cons_zero, List.set_cons_succ, Option.bind_some, Option.map_some, Option.bind_none, Option.map_none, List.all_cons, List.all_nil, Sl.dp, Bool.and_true, Bool.true_and, and_self, and_true, true_and, if_true, if_false, ite_true, ite_false, Bool.false_eq_true, reduceCtorEq, reduceIte, Bool.not_true, Bool.not_false, gEq_str, gEq_int, gAdd_int, le_line, Nat.reduceLeDiff, Nat.reduceEqDiff, ne_eq, not_false_eq_true, cast_2, cast_3, cast_4, cast_5, cast_1, cast_0, eq_self, decide_true, decide_false, tName], ?_, _, _, _, _, rfl, ?_, fun t hm => ?_⟩
      · simp only [mOf, mOfZ, mOfR, asRt, entry, List.length_cons, List.length_nil, List.replicate, List.cons_append, List.nil_append, Nat.reduceAdd, Nat.reduceSub, fV, fVx, fC, fB, fBN, fU, fUN, fL, fIsi, fAndV, fOrV, fNotV, fTv, asB, asL, asT, fNotT, fAndT, fOrT, fIf, fIfN, fCh, fCl, fClN, aNil, aD, aN, aP, fNil, fCons, fTup, fLst, sNil, sSeq, sSet, sSetM, sRet, sRetN, sIf, sBrk, sCnt, sDrop, sFor, rSeq, sFrz, iL, iT, iS, iE, iZ, iR1, iR2, oNone, oSome, fSlA, fSlL, fPot, sPot, gPot, sPotN, List.getElem?_cons_zero, List.getElem?_cons_succ, List.set_cons_zero, List.set_cons_succ, Option.bind_some, Option.map_some, Option.bind_none, Option.map_none, List.all_cons, List.all_nil, Sl.dp, Bool.and_true, Bool.true_and, and_self, and_true, true_and, if_true, if_false, ite_true, ite_false, Bool.false_eq_true, reduceCtorEq, reduceIte, Bool.not_true, Bool.not_false, gEq_str, gEq_int, gAdd_int, le_line, Nat.reduceLeDiff, Nat.reduceEqDiff, ne_eq, not_false_eq_true, cast_2, cast_3, cast_4, cast_5, cast_1, cast_0, eq_self, decide_true, decide_false, e1, e2, e3, e4, e5, e6, e7, e8, gAdd, gIx_lst, gIx_tup, atI_0, atI_1, sApp, hlt]
      · rw [List.length_append, hl]; simp
      · rcases List.mem_append.mp hm with z | z
        · exact ht t z
        · rw [List.mem_singleton] at z
          exact ⟨nm, n1, n2, z, m1, u1, u2, by omega, u4 q1, v1, v2, by omega⟩)
  obtain ⟨ρ', π3, e3, ts, s6, s7, s8, rfl, hl, ht⟩ := key
  rw [upTo_length] at hl
  obtain ⟨fs, π4, e4, f1, f2⟩ := fLc_ex (own := [10]) (t := tName 10) (b := bYes) (f := fCl 2 m__law_pick (aP 0 (aD (fL (fLst (fCons (fC (.int 0)) (fCons (fC (.int 0)) (fCons (fC (.int 1)) (fCons (fC (.int 1)) (fCons (fC (.int 2)) fNil))))))) aNil)))
    (ρ := [.p, .d (.int most), .d (.int many), .d (.int p), .d (.int w), .m ts, s6, s7, s8, .e, .e]) (it := iR1 (fVx 3)) (ds := upTo 0 p.toNat) (π := π3) (π1 := π3) small2 (by simp only [mOf, mOfZ, mOfR, asRt, entry, List.length_cons, List.length_nil, List.replicate, List.cons_append, List.nil_append, Nat.reduceAdd, Nat.reduceSub, fV, fVx, fC, fB, fBN, fU, fUN, fL, fIsi, fAndV, fOrV, fNotV, fTv, asB, asL, asT, fNotT, fAndT, fOrT, fIf, fIfN, fCh, fCl, fClN, aNil, aD, aN, aP, fNil, fCons, fTup, fLst, sNil, sSeq, sSet, sSetM, sRet, sRetN, sIf, sBrk, sCnt, sDrop, sFor, rSeq, sFrz, iL, iT, iS, iE, iZ, iR1, iR2, oNone, oSome, fSlA, fSlL, fPot, sPot, gPot, sPotN, List.getElem?_cons_zero, List.getElem?_cons_succ, List.set_cons_zero, List.set_cons_succ, Option.bind_some, Option.map_some, Option.bind_none, Option.map_none, List.all_cons, List.all_nil, Sl.dp, Bool.and_true, Bool.true_and, and_self, and_true, true_and, if_true, if_false, ite_true, ite_false, Bool.false_eq_true, reduceCtorEq, reduceIte, Bool.not_true, Bool.not_false, gEq_str, gEq_int, gAdd_int, le_line, Nat.reduceLeDiff, Nat.reduceEqDiff, ne_eq, not_false_eq_true, cast_2, cast_3, cast_4, cast_5, cast_1, cast_0, eq_self, decide_true, decide_false, r3, r4]) (len_line (by rw [upTo_length]; omega)) (by
      intro x hx π
      obtain ⟨y, π', e, m⟩ := e_pick π [.int 0, .int 0, .int 1, .int 1, .int 2] (by simp) (by simp)
      refine ⟨_, π, y, π', rfl, rfl, by simp only [mOf, mOfZ, mOfR, asRt, entry, List.length_cons, List.length_nil, List.replicate, List.cons_append, List.nil_append, Nat.reduceAdd, Nat.reduceSub, fV, fVx, fC, fB, fBN, fU, fUN, fL, fIsi, fAndV, fOrV, fNotV, fTv, asB, asL, asT, fNotT, fAndT, fOrT, fIf, fIfN, fCh, fCl, fClN, aNil, aD, aN, aP, fNil, fCons, fTup, fLst, sNil, sSeq, sSet, sSetM, sRet, sRetN, sIf, sBrk, sCnt, sDrop, sFor, rSeq, sFrz, iL, iT, iS, iE, iZ, iR1, iR2, oNone, oSome, fSlA, fSlL, fPot, sPot, gPot, sPotN, List.getElem?_cons_zero, List.getElem?_cons_succ, List.set_cons_zero, List.set_cons_succ, Option.bind_some, Option.map_some, Option.bind_none, Option.map_none, List.all_cons, List.all_nil, Sl.dp, Bool.and_true, Bool.true_and, and_self, and_true, true_and, if_true, if_false, ite_true, ite_false, Bool.false_eq_true, reduceCtorEq, reduceIte, Bool.not_true, Bool.not_false, gEq_str, gEq_int, gAdd_int, le_line, Nat.reduceLeDiff, Nat.reduceEqDiff, ne_eq, not_false_eq_true, cast_2, cast_3, cast_4, cast_5, cast_1, cast_0, eq_self, decide_true, decide_false, wipeE, e], ?_⟩
      simp only [List.mem_cons, List.not_mem_nil, or_false] at m
      rcases m with rfl | rfl | rfl | rfl | rfl <;> exact ⟨_, rfl, by omega, by omega⟩)
  rw [upTo_length] at f1
  have hf0 : 0 < fs.length := by omega
  obtain ⟨i0, ei0, i1, i2⟩ := f2 _ (List.getElem_mem hf0)
  have ex : L2.atI fs 0 = some (.int i0) := by rw [atI_0, List.getElem?_eq_getElem hf0, ei0]
  have ix : L2.ixN fs.length 0 = some 0 := by
    unfold L2.ixN
    rw [if_pos (by omega), if_pos (by omega)]
    rfl
  obtain ⟨ls, π5, e5, l1, l2⟩ := fLc_ex (own := [10]) (t := tName 10) (b := bYes) (f := fCl 2 m__law_draw (aP 0 (aD (fC (.int 3)) aNil)))
    (ρ := [.p, .d (.int most), .d (.int many), .d (.int p), .d (.int w), .m ts, s6, s7, s8, .m (fs.set 0 (.int (if i0 > 1 then i0 else 1))), .e]) (it := iR1 (fVx 3)) (ds := upTo 0 p.toNat) (π := π4) (π1 := π4) small2 (by simp only [mOf, mOfZ, mOfR, asRt, entry, List.length_cons, List.length_nil, List.replicate, List.cons_append, List.nil_append, Nat.reduceAdd, Nat.reduceSub, fV, fVx, fC, fB, fBN, fU, fUN, fL, fIsi, fAndV, fOrV, fNotV, fTv, asB, asL, asT, fNotT, fAndT, fOrT, fIf, fIfN, fCh, fCl, fClN, aNil, aD, aN, aP, fNil, fCons, fTup, fLst, sNil, sSeq, sSet, sSetM, sRet, sRetN, sIf, sBrk, sCnt, sDrop, sFor, rSeq, sFrz, iL, iT, iS, iE, iZ, iR1, iR2, oNone, oSome, fSlA, fSlL, fPot, sPot, gPot, sPotN, List.getElem?_cons_zero, List.getElem?_cons_succ, List.set_cons_zero, List.set_cons_succ, Option.bind_some, Option.map_some, Option.bind_none, Option.map_none, List.all_cons, List.all_nil, Sl.dp, Bool.and_true, Bool.true_and, and_self, and_true, true_and, if_true, if_false, ite_true, ite_false, Bool.false_eq_true, reduceCtorEq, reduceIte, Bool.not_true, Bool.not_false, gEq_str, gEq_int, gAdd_int, le_line, Nat.reduceLeDiff, Nat.reduceEqDiff, ne_eq, not_false_eq_true, cast_2, cast_3, cast_4, cast_5, cast_1, cast_0, eq_self, decide_true, decide_false, r3, r4]) (len_line (by rw [upTo_length]; omega)) (by
      intro x hx π
      obtain ⟨y, π', e, m1, m2⟩ := e_draw π 3 (by omega) (by omega)
      exact ⟨_, π, .int y, π', rfl, rfl, by simp only [mOf, mOfZ, mOfR, asRt, entry, List.length_cons, List.length_nil, List.replicate, List.cons_append, List.nil_append, Nat.reduceAdd, Nat.reduceSub, fV, fVx, fC, fB, fBN, fU, fUN, fL, fIsi, fAndV, fOrV, fNotV, fTv, asB, asL, asT, fNotT, fAndT, fOrT, fIf, fIfN, fCh, fCl, fClN, aNil, aD, aN, aP, fNil, fCons, fTup, fLst, sNil, sSeq, sSet, sSetM, sRet, sRetN, sIf, sBrk, sCnt, sDrop, sFor, rSeq, sFrz, iL, iT, iS, iE, iZ, iR1, iR2, oNone, oSome, fSlA, fSlL, fPot, sPot, gPot, sPotN, List.getElem?_cons_zero, List.getElem?_cons_succ, List.set_cons_zero, List.set_cons_succ, Option.bind_some, Option.map_some, Option.bind_none, Option.map_none, List.all_cons, List.all_nil, Sl.dp, Bool.and_true, Bool.true_and, and_self, and_true, true_and, if_true, if_false, ite_true, ite_false, Bool.false_eq_true, reduceCtorEq, reduceIte, Bool.not_true, Bool.not_false, gEq_str, gEq_int, gAdd_int, le_line, Nat.reduceLeDiff, Nat.reduceEqDiff, ne_eq, not_false_eq_true, cast_2, cast_3, cast_4, cast_5, cast_1, cast_0, eq_self, decide_true, decide_false, wipeE, e], y, rfl, by omega, by omega⟩)
  rw [upTo_length] at l1
  refine ⟨p, ts, fs.set 0 (.int (if i0 > 1 then i0 else 1)), ls, π5, ?_, hp.1, hp.2, by omega, by omega, ht, by rw [List.length_set]; omega, fun x hx => ?_, by omega, l2⟩
  · unfold m__law_sheet g__law_sheet
    simp only [mOf, mOfZ, mOfR, asRt, entry, List.length_cons, List.length_nil, List.replicate, List.cons_append, List.nil_append, Nat.reduceAdd, Nat.reduceSub, fV, fVx, fC, fB, fBN, fU, fUN, fL, fIsi, fAndV, fOrV, fNotV, fTv, asB, asL, asT, fNotT, fAndT, fOrT, fIf, fIfN, fCh, fCl, fClN, aNil, aD, aN, aP, fNil, fCons, fTup, fLst, sNil, sSeq, sSet, sSetM, sRet, sRetN, sIf, sBrk, sCnt, sDrop, sFor, rSeq, sFrz, iL, iT, iS, iE, iZ, iR1, iR2, oNone, oSome, fSlA, fSlL, fPot, sPot, gPot, sPotN, List.getElem?_cons_zero, List.getElem?_cons_succ, List.set_cons_zero, List.set_cons_succ, Option.bind_some, Option.map_some, Option.bind_none, Option.map_none, List.all_cons, List.all_nil, Sl.dp, Bool.and_true, Bool.true_and, and_self, and_true, true_and, if_true, if_false, ite_true, ite_false, Bool.false_eq_true, reduceCtorEq, reduceIte, Bool.not_true, Bool.not_false, gEq_str, gEq_int, gAdd_int, le_line, Nat.reduceLeDiff, Nat.reduceEqDiff, ne_eq, not_false_eq_true, cast_2, cast_3, cast_4, cast_5, cast_1, cast_0, eq_self, decide_true, decide_false, e0, e1, e2, e3, e4, e5, gAdd, hpe, sPar3, notP, r1, r2, r3, r4, sSetIx, gMax2, gIx_lst, ex, ix, gTuple]

  · rcases List.mem_or_eq_of_mem_set hx with z | z
    · exact f2 x z
    · refine ⟨_, z, ?_, ?_⟩ <;> split <;> omega
end Law10

set_option maxHeartbeats 2000000
namespace Law10
open PySem DL
set_option autoImplicit false
abbrev lastL : List PyData := [.none, .int 0, .tuple [], .list [], .str "a", .tuple [.int 0], .tuple [.int 1, .int 0], .tuple [.int 0, .int 0], .dict []]
theorem lastL_ok : ∀ u ∈ lastL, Bt 2 1 1 100 1 u := fun u hu => btB_ok ((List.all_eq_true.mp (by decide +kernel : lastL.all (btB 2 1 1 100 1) = true)) u hu)
abbrev strL0 : List PyData := [.str "", .str "A", .str "a b", .str "sheets", .str "sheet", .str "0a", .str "_a", .str (repS "a" 12), .str (repS "a" 13), .none, .tuple [.str "a"], .int 0]
theorem strL0_ok : ∀ u ∈ strL0, Bt 2 1 13 100 1 u := fun u hu => btB_ok ((List.all_eq_true.mp (by decide +kernel : strL0.all (btB 2 1 13 100 1) = true)) u hu)
abbrev intL0 : List PyData := [.int 9, .int 10, .int 16, .int (-1), .bool true, .bool false, .none, .str "0"]
theorem intL0_ok : ∀ u ∈ intL0, Bt 2 16 1 100 1 u := fun u hu => btB_ok ((List.all_eq_true.mp (by decide +kernel : intL0.all (btB 2 16 1 100 1) = true)) u hu)
theorem strOk_snoc {z : Str} (h : PyData.strOk z = true) : PyData.strOk (z ++ ("-" : Str)) = true := by
  have h0 : z.cps.all (· < 0x110000) = true := h
  show (z.cps ++ #[45]).all (· < 0x110000) = true
  rw [Array.all_append, h0]
  simp
theorem snoc_len (z : Str) : (z ++ ("-" : Str)).length = z.length + 1 := by
  show (z.cps ++ #[45]).size = z.cps.size + 1
  rw [Array.size_append]
  rfl
theorem e_bent : ∀ (n : Nat) (v : PyData) (π : Pt) (m : Nat) (b : Int) (c : Nat), vb m b c v = true → v.depth < n → 2 ≤ m → m ≤ 1000 → 10 ^ 20 ≤ b → b ≤ 10 ^ 20 + 9 → 13 ≤ c → c ≤ 1000 →
    ∃ u π', m__law_bent n [.p, .d v] π = some (u, π') ∧ Bt (m + 1) (b + 1) (c + 1) (2 * v.weight + 100) (v.depth + 1) u
  | 0, v, π, m, b, c, hv, hd, h1, h2, h3, h4, h5, h6 => absurd hd (by omega)
  | n + 1, v, π, m, b, c, hv, hd, h1, h2, h3, h4, h5, h6 => by
    have e20 : (10 : Int) ^ 20 = 100000000000000000000 := by decide
    have p20 : (10 : Int) ^ (20 : Int).toNat = 100000000000000000000 := by decide
    have cp : cPow 10 20 = true := by decide +kernel
    rw [e20] at h3 h4
    have last : ∀ π, ∃ u π', m__law_pick [.p, .d (.list lastL)] π = some (u, π') ∧ Bt (m + 1) (b + 1) (c + 1) (2 * v.weight + 100) (v.depth + 1) u := fun π => by
      obtain ⟨u, π', e, hu⟩ := e_pick π lastL (by simp) (by simp)
      exact ⟨u, π', e, (lastL_ok u hu).mono (by omega) (by omega) (by omega) (by omega) (by omega)⟩
    have r1 : gMulS (.str "a") (.int 12) = some (.str (repS "a" 12)) := by
      unfold gMulS
      exact if_pos (by decide +kernel)
    have r2 : gMulS (.str "a") (.int 13) = some (.str (repS "a" 13)) := by
      unfold gMulS
      exact if_pos (by decide +kernel)
    unfold m__law_bent g__law_bent
    cases v with
    | none =>
      obtain ⟨u, π', e, hu⟩ := last π
      refine ⟨u, π', ?_, hu⟩
      simp only [mOf, mOfZ, mOfR, asRt, entry, List.length_cons, List.length_nil, List.replicate, List.cons_append, List.nil_append, Nat.reduceAdd, Nat.reduceSub, fV, fVx, fC, fB, fBN, fU, fUN, fL, fIsi, fAndV, fOrV, fNotV, fTv, asB, asL, asT, fNotT, fAndT, fOrT, fIf, fIfN, fCh, fCl, fClN, aNil, aD, aN, aP, fNil, fCons, fTup, fLst, sNil, sSeq, sSet, sSetM, sRet, sRetN, sIf, sBrk, sCnt, sDrop, sFor, rSeq, sFrz, iL, iT, iS, iE, iZ, iR1, iR2, oNone, oSome, fSlA, fSlL, fPot, sPot, gPot, sPotN, List.getElem?_cons_zero, List.getElem?_cons_succ, List.set_cons_zero, List.set_cons_succ, Option.bind_some, Option.map_some, Option.bind_none, Option.map_none, List.all_cons, List.all_nil, Sl.dp, Bool.and_true, Bool.true_and, and_self, and_true, true_and, if_true, if_false, ite_true, ite_false, Bool.false_eq_true, reduceCtorEq, reduceIte, Bool.not_true, Bool.not_false, gEq_str, gEq_int, gAdd_int, le_line, Nat.reduceLeDiff, Nat.reduceEqDiff, ne_eq, not_false_eq_true, cast_2, cast_3, cast_4, cast_5, cast_1, cast_0, eq_self, decide_true, decide_false, isi_tuple, dTup, isi_str, dStr, isi_int, dInt, dBool, Bool.or_self, fDict0, e]
    | list xs =>
      obtain ⟨u, π', e, hu⟩ := last π
      refine ⟨u, π', ?_, hu⟩
      simp only [mOf, mOfZ, mOfR, asRt, entry, List.length_cons, List.length_nil, List.replicate, List.cons_append, List.nil_append, Nat.reduceAdd, Nat.reduceSub, fV, fVx, fC, fB, fBN, fU, fUN, fL, fIsi, fAndV, fOrV, fNotV, fTv, asB, asL, asT, fNotT, fAndT, fOrT, fIf, fIfN, fCh, fCl, fClN, aNil, aD, aN, aP, fNil, fCons, fTup, fLst, sNil, sSeq, sSet, sSetM, sRet, sRetN, sIf, sBrk, sCnt, sDrop, sFor, rSeq, sFrz, iL, iT, iS, iE, iZ, iR1, iR2, oNone, oSome, fSlA, fSlL, fPot, sPot, gPot, sPotN, List.getElem?_cons_zero, List.getElem?_cons_succ, List.set_cons_zero, List.set_cons_succ, Option.bind_some, Option.map_some, Option.bind_none, Option.map_none, List.all_cons, List.all_nil, Sl.dp, Bool.and_true, Bool.true_and, and_self, and_true, true_and, if_true, if_false, ite_true, ite_false, Bool.false_eq_true, reduceCtorEq, reduceIte, Bool.not_true, Bool.not_false, gEq_str, gEq_int, gAdd_int, le_line, Nat.reduceLeDiff, Nat.reduceEqDiff, ne_eq, not_false_eq_true, cast_2, cast_3, cast_4, cast_5, cast_1, cast_0, eq_self, decide_true, decide_false, isi_tuple, dTup, isi_str, dStr, isi_int, dInt, dBool, Bool.or_self, fDict0, e]
    | dict xs =>
      obtain ⟨u, π', e, hu⟩ := last π
      refine ⟨u, π', ?_, hu⟩
      simp only [mOf, mOfZ, mOfR, asRt, entry, List.length_cons, List.length_nil, List.replicate, List.cons_append, List.nil_append, Nat.reduceAdd, Nat.reduceSub, fV, fVx, fC, fB, fBN, fU, fUN, fL, fIsi, fAndV, fOrV, fNotV, fTv, asB, asL, asT, fNotT, fAndT, fOrT, fIf, fIfN, fCh, fCl, fClN, aNil, aD, aN, aP, fNil, fCons, fTup, fLst, sNil, sSeq, sSet, sSetM, sRet, sRetN, sIf, sBrk, sCnt, sDrop, sFor, rSeq, sFrz, iL, iT, iS, iE, iZ, iR1, iR2, oNone, oSome, fSlA, fSlL, fPot, sPot, gPot, sPotN, List.getElem?_cons_zero, List.getElem?_cons_succ, List.set_cons_zero, List.set_cons_succ, Option.bind_some, Option.map_some, Option.bind_none, Option.map_none, List.all_cons, List.all_nil, Sl.dp, Bool.and_true, Bool.true_and, and_self, and_true, true_and, if_true, if_false, ite_true, ite_false, Bool.false_eq_true, reduceCtorEq, reduceIte, Bool.not_true, Bool.not_false, gEq_str, gEq_int, gAdd_int, le_line, Nat.reduceLeDiff, Nat.reduceEqDiff, ne_eq, not_false_eq_true, cast_2, cast_3, cast_4, cast_5, cast_1, cast_0, eq_self, decide_true, decide_false, isi_tuple, dTup, isi_str, dStr, isi_int, dInt, dBool, Bool.or_self, fDict0, e]
    | str z =>
      obtain ⟨z1, z2⟩ := vb_str.mp hv
      have zl : z.length + ("-" : Str).length ≤ sizeLine := by
        have : ("-" : Str).length = 1 := by decide
        rw [this, sizeLine_eq]; omega
      obtain ⟨u, π', e, hu⟩ := e_pick π (strL0 ++ [.str (z ++ ("-" : Str))]) (by simp) (by simp)
      simp only [List.cons_append, List.nil_append] at e
      refine ⟨u, π', ?_, ?_⟩
      · simp only [mOf, mOfZ, mOfR, asRt, entry, List.length_cons, List.length_nil, List.replicate, List.cons_append, List.nil_append, Nat.reduceAdd, Nat.reduceSub, fV, fVx, fC, fB, fBN, fU, fUN, fL, fIsi, fAndV, fOrV, fNotV, fTv, asB, asL, asT, fNotT, fAndT, fOrT, fIf, fIfN, fCh, fCl, fClN, aNil, aD, aN, aP, fNil, fCons, fTup, fLst, sNil, sSeq, sSet, sSetM, sRet, sRetN, sIf, sBrk, sCnt, sDrop, sFor, rSeq, sFrz, iL, iT, iS, iE, iZ, iR1, iR2, oNone, oSome, fSlA, fSlL, fPot, sPot, gPot, sPotN, List.getElem?_cons_zero, List.getElem?_cons_succ, List.set_cons_zero, List.set_cons_succ, Option.bind_some, Option.map_some, Option.bind_none, Option.map_none, List.all_cons, List.all_nil, Sl.dp, Bool.and_true, Bool.true_and, and_self, and_true, true_and, if_true, if_false, ite_true, ite_false, Bool.false_eq_true, reduceCtorEq, reduceIte, Bool.not_true, Bool.not_false, gEq_str, gEq_int, gAdd_int, le_line, Nat.reduceLeDiff, Nat.reduceEqDiff, ne_eq, not_false_eq_true, cast_2, cast_3, cast_4, cast_5, cast_1, cast_0, eq_self, decide_true, decide_false, isi_tuple, dTup, isi_str, dStr, r1, r2, gAdd, zl, e]
      · rcases List.mem_append.mp hu with hu | hu
        · exact (strL0_ok u hu).mono (by omega) (by omega) (by omega) (by omega) (by omega)
        · rw [List.mem_singleton] at hu
          subst hu
          refine ⟨vb_str.mpr ⟨strOk_snoc z1, by rw [snoc_len]; omega⟩, ?_, ?_⟩
          · have := snoc_len z
            simp only [PyData.weight]
            unfold Str.length at this
            omega
          · simp only [PyData.depth]; omega
    | int i =>
      obtain ⟨i1, i2⟩ := vb_int.mp hv
      obtain ⟨u, π', e, hu⟩ := e_pick π ([.int (i + 1), .int (i - 1)] ++ (intL0 ++ [.tuple [.int i], .int 100000000000000000000])) (by simp) (by simp)
      simp only [List.cons_append, List.nil_append] at e
      refine ⟨u, π', ?_, ?_⟩
      · simp only [mOf, mOfZ, mOfR, asRt, entry, List.length_cons, List.length_nil, List.replicate, List.cons_append, List.nil_append, Nat.reduceAdd, Nat.reduceSub, fV, fVx, fC, fB, fBN, fU, fUN, fL, fIsi, fAndV, fOrV, fNotV, fTv, asB, asL, asT, fNotT, fAndT, fOrT, fIf, fIfN, fCh, fCl, fClN, aNil, aD, aN, aP, fNil, fCons, fTup, fLst, sNil, sSeq, sSet, sSetM, sRet, sRetN, sIf, sBrk, sCnt, sDrop, sFor, rSeq, sFrz, iL, iT, iS, iE, iZ, iR1, iR2, oNone, oSome, fSlA, fSlL, fPot, sPot, gPot, sPotN, List.getElem?_cons_zero, List.getElem?_cons_succ, List.set_cons_zero, List.set_cons_succ, Option.bind_some, Option.map_some, Option.bind_none, Option.map_none, List.all_cons, List.all_nil, Sl.dp, Bool.and_true, Bool.true_and, and_self, and_true, true_and, if_true, if_false, ite_true, ite_false, Bool.false_eq_true, reduceCtorEq, reduceIte, Bool.not_true, Bool.not_false, gEq_str, gEq_int, gAdd_int, le_line, Nat.reduceLeDiff, Nat.reduceEqDiff, ne_eq, not_false_eq_true, cast_2, cast_3, cast_4, cast_5, cast_1, cast_0, eq_self, decide_true, decide_false, isi_tuple, dTup, isi_str, dStr, isi_int, dInt, dBool, Bool.or_false, gAdd, gSubI, gNeg, gPow, gI, cp, p20, e]
      · have w1 : (PyData.int (i + 1)).weight ≤ 68 := wInt (by rw [e20]; omega) (by rw [e20]; omega)
        have w2 : (PyData.int (i - 1)).weight ≤ 68 := wInt (by rw [e20]; omega) (by rw [e20]; omega)
        have w3 : (PyData.int i).weight ≤ 68 := wInt (by rw [e20]; omega) (by rw [e20]; omega)
        have w4 : (PyData.int 100000000000000000000).weight ≤ 68 := wInt (by rw [e20]; omega) (by rw [e20]; omega)
        rcases List.mem_append.mp hu with hu | hu
        · simp only [List.mem_cons, List.not_mem_nil, or_false] at hu
          rcases hu with rfl | rfl
          · exact ⟨vb_int.mpr (by omega), by omega, by simp only [PyData.depth]; omega⟩
          · exact ⟨vb_int.mpr (by omega), by omega, by simp only [PyData.depth]; omega⟩
        · rcases List.mem_append.mp hu with hu | hu
          · exact (intL0_ok u hu).mono (by omega) (by omega) (by omega) (by omega) (by omega)
          · simp only [List.mem_cons, List.not_mem_nil, or_false] at hu
            rcases hu with rfl | rfl
            · refine ⟨vb_tup.mpr ⟨by simp, fun x hx => ?_⟩, by simp only [PyData.weight, PyData.weightAll] at *; omega, by simp only [PyData.depth, PyData.depthAll]; omega⟩
              rw [List.mem_singleton] at hx
              subst hx
              exact vb_int.mpr (by omega)
            · exact ⟨vb_int.mpr (by omega), by omega, by simp only [PyData.depth]; omega⟩
    | bool k =>
      have hk : 0 ≤ b2 k ∧ b2 k ≤ 1 := by cases k <;> simp [b2]
      obtain ⟨u, π', e, hu⟩ := e_pick π ([.int (b2 k + 1), .int (b2 k - 1)] ++ (intL0 ++ [.tuple [.bool k], .int 100000000000000000000])) (by simp) (by simp)
      simp only [List.cons_append, List.nil_append] at e
      refine ⟨u, π', ?_, ?_⟩
      · simp only [mOf, mOfZ, mOfR, asRt, entry, List.length_cons, List.length_nil, List.replicate, List.cons_append, List.nil_append, Nat.reduceAdd, Nat.reduceSub, fV, fVx, fC, fB, fBN, fU, fUN, fL, fIsi, fAndV, fOrV, fNotV, fTv, asB, asL, asT, fNotT, fAndT, fOrT, fIf, fIfN, fCh, fCl, fClN, aNil, aD, aN, aP, fNil, fCons, fTup, fLst, sNil, sSeq, sSet, sSetM, sRet, sRetN, sIf, sBrk, sCnt, sDrop, sFor, rSeq, sFrz, iL, iT, iS, iE, iZ, iR1, iR2, oNone, oSome, fSlA, fSlL, fPot, sPot, gPot, sPotN, List.getElem?_cons_zero, List.getElem?_cons_succ, List.set_cons_zero, List.set_cons_succ, Option.bind_some, Option.map_some, Option.bind_none, Option.map_none, List.all_cons, List.all_nil, Sl.dp, Bool.and_true, Bool.true_and, and_self, and_true, true_and, if_true, if_false, ite_true, ite_false, Bool.false_eq_true, reduceCtorEq, reduceIte, Bool.not_true, Bool.not_false, gEq_str, gEq_int, gAdd_int, le_line, Nat.reduceLeDiff, Nat.reduceEqDiff, ne_eq, not_false_eq_true, cast_2, cast_3, cast_4, cast_5, cast_1, cast_0, eq_self, decide_true, decide_false, isi_tuple, dTup, isi_str, dStr, isi_int, dInt, dBool, Bool.or_true, gAdd, gSubI, gNeg, gPow, gI, cp, p20, e]
      · have w1 : (PyData.int (b2 k + 1)).weight ≤ 68 := wInt (by rw [e20]; omega) (by rw [e20]; omega)
        have w2 : (PyData.int (b2 k - 1)).weight ≤ 68 := wInt (by rw [e20]; omega) (by rw [e20]; omega)
        have w4 : (PyData.int 100000000000000000000).weight ≤ 68 := wInt (by rw [e20]; omega) (by rw [e20]; omega)
        rcases List.mem_append.mp hu with hu | hu
        · simp only [List.mem_cons, List.not_mem_nil, or_false] at hu
          rcases hu with rfl | rfl
          · exact ⟨vb_int.mpr (by omega), by omega, by simp only [PyData.depth]; omega⟩
          · exact ⟨vb_int.mpr (by omega), by omega, by simp only [PyData.depth]; omega⟩
        · rcases List.mem_append.mp hu with hu | hu
          · exact (intL0_ok u hu).mono (by omega) (by omega) (by omega) (by omega) (by omega)
          · simp only [List.mem_cons, List.not_mem_nil, or_false] at hu
            rcases hu with rfl | rfl
            · refine ⟨vb_tup.mpr ⟨by simp, fun x hx => ?_⟩, by simp only [PyData.weight, PyData.weightAll] at *; omega, by simp only [PyData.depth, PyData.depthAll]; omega⟩
              rw [List.mem_singleton] at hx
              subst hx
              rfl
            · exact ⟨vb_int.mpr (by omega), by omega, by simp only [PyData.depth]; omega⟩
    | tuple xs =>
      obtain ⟨hl, hx⟩ := vb_tup.mp hv
      have up : ∀ y ∈ xs, vb (m + 1) (b + 1) (c + 1) y = true := fun y hy => vb_mono (by omega) (by omega) (by omega) y (hx y hy)
      have ew : (PyData.tuple xs).weight = PyData.weightAll xs := by simp only [PyData.weight]
      have ed : (PyData.tuple xs).depth = PyData.depthAll xs + 1 := by simp only [PyData.depth]
      rw [ed] at hd
      by_cases h0 : xs = []
      · obtain ⟨u, π', e, hu⟩ := last π
        refine ⟨u, π', ?_, hu⟩
        subst h0
        have z : decide ((0 : Int) < 0) = false := rfl
        simp only [mOf, mOfZ, mOfR, asRt, entry, List.length_cons, List.length_nil, List.replicate, List.cons_append, List.nil_append, Nat.reduceAdd, Nat.reduceSub, fV, fVx, fC, fB, fBN, fU, fUN, fL, fIsi, fAndV, fOrV, fNotV, fTv, asB, asL, asT, fNotT, fAndT, fOrT, fIf, fIfN, fCh, fCl, fClN, aNil, aD, aN, aP, fNil, fCons, fTup, fLst, sNil, sSeq, sSet, sSetM, sRet, sRetN, sIf, sBrk, sCnt, sDrop, sFor, rSeq, sFrz, iL, iT, iS, iE, iZ, iR1, iR2, oNone, oSome, fSlA, fSlL, fPot, sPot, gPot, sPotN, List.getElem?_cons_zero, List.getElem?_cons_succ, List.set_cons_zero, List.set_cons_succ, Option.bind_some, Option.map_some, Option.bind_none, Option.map_none, List.all_cons, List.all_nil, Sl.dp, Bool.and_true, Bool.true_and, and_self, and_true, true_and, if_true, if_false, ite_true, ite_false, Bool.false_eq_true, reduceCtorEq, reduceIte, Bool.not_true, Bool.not_false, gEq_str, gEq_int, gAdd_int, le_line, Nat.reduceLeDiff, Nat.reduceEqDiff, ne_eq, not_false_eq_true, cast_2, cast_3, cast_4, cast_5, cast_1, cast_0, eq_self, decide_true, decide_false, isi_tuple, dTup, isi_str, dStr, isi_int, dInt, dBool, Bool.or_self, fDict0, gLen_tup, gGt, gCmp, z, e]
      · have hp : 0 < xs.length := List.length_pos_iff.mpr h0
        have hpI : decide ((0 : Int) < (xs.length : Int)) = true := by simp; omega
        obtain ⟨d8, π1, e1, x1, x2⟩ := e_draw π 8 (by omega) (by omega)
        cases h8 : decide (0 < d8) with
        | false =>
          obtain ⟨u, π', e, hu⟩ := last π1
          refine ⟨u, π', ?_, hu⟩
          simp only [mOf, mOfZ, mOfR, asRt, entry, List.length_cons, List.length_nil, List.replicate, List.cons_append, List.nil_append, Nat.reduceAdd, Nat.reduceSub, fV, fVx, fC, fB, fBN, fU, fUN, fL, fIsi, fAndV, fOrV, fNotV, fTv, asB, asL, asT, fNotT, fAndT, fOrT, fIf, fIfN, fCh, fCl, fClN, aNil, aD, aN, aP, fNil, fCons, fTup, fLst, sNil, sSeq, sSet, sSetM, sRet, sRetN, sIf, sBrk, sCnt, sDrop, sFor, rSeq, sFrz, iL, iT, iS, iE, iZ, iR1, iR2, oNone, oSome, fSlA, fSlL, fPot, sPot, gPot, sPotN, List.getElem?_cons_zero, List.getElem?_cons_succ, List.set_cons_zero, List.set_cons_succ, Option.bind_some, Option.map_some, Option.bind_none, Option.map_none, List.all_cons, List.all_nil, Sl.dp, Bool.and_true, Bool.true_and, and_self, and_true, true_and, if_true, if_false, ite_true, ite_false, Bool.false_eq_true, reduceCtorEq, reduceIte, Bool.not_true, Bool.not_false, gEq_str, gEq_int, gAdd_int, le_line, Nat.reduceLeDiff, Nat.reduceEqDiff, ne_eq, not_false_eq_true, cast_2, cast_3, cast_4, cast_5, cast_1, cast_0, eq_self, decide_true, decide_false, isi_tuple, dTup, isi_str, dStr, isi_int, dInt, dBool, Bool.or_self, fDict0, gLen_tup, gGt, gCmp, hpI, e1, h8, e]
        | true =>
          obtain ⟨at_, π2, e2, a1, a2⟩ := e_draw π1 xs.length (by omega) (by omega)
          obtain ⟨way, π3, e3, y1, y2⟩ := e_draw π2 11 (by omega) (by omega)
          have a3 : at_.toNat < xs.length := by omega
          have a4 : (at_ + 1).toNat = at_.toNat + 1 := by omega
          have c1 := cutD_toI xs a1
          have c2 := cutD_fromI xs a1
          have c3 := cutD_toI xs (k := at_ + 1) (by omega)
          have c4 := cutD_fromI xs (k := at_ + 1) (by omega)
          rw [a4] at c3 c4
          have l1 : (xs.take at_.toNat).length = at_.toNat := by rw [List.length_take]; omega
          have l2 : (xs.take (at_.toNat + 1)).length = at_.toNat + 1 := by rw [List.length_take]; omega
          have l3 : (xs.drop at_.toNat).length = xs.length - at_.toNat := List.length_drop ..
          have l4 : (xs.drop (at_.toNat + 1)).length = xs.length - (at_.toNat + 1) := List.length_drop ..
          have s1 := weight_split at_.toNat xs
          have s2 := weight_split (at_.toNat + 1) xs
          cases w0 : decide (way = 0) with
          | true =>
            refine ⟨.tuple (xs.take at_.toNat ++ xs.drop (at_.toNat + 1)), π3, ?_, bt_tup (by rw [List.length_append]; omega) (fun y hy => ?_) ?_ ?_⟩
            · have g := gAdd_tup (xs := xs.take at_.toNat) (ys := xs.drop (at_.toNat + 1)) (by omega)
              simp only [mOf, mOfZ, mOfR, asRt, entry, List.length_cons, List.length_nil, List.replicate, List.cons_append, List.nil_append, Nat.reduceAdd, Nat.reduceSub, fV, fVx, fC, fB, fBN, fU, fUN, fL, fIsi, fAndV, fOrV, fNotV, fTv, asB, asL, asT, fNotT, fAndT, fOrT, fIf, fIfN, fCh, fCl, fClN, aNil, aD, aN, aP, fNil, fCons, fTup, fLst, sNil, sSeq, sSet, sSetM, sRet, sRetN, sIf, sBrk, sCnt, sDrop, sFor, rSeq, sFrz, iL, iT, iS, iE, iZ, iR1, iR2, oNone, oSome, fSlA, fSlL, fPot, sPot, gPot, sPotN, List.getElem?_cons_zero, List.getElem?_cons_succ, List.set_cons_zero, List.set_cons_succ, Option.bind_some, Option.map_some, Option.bind_none, Option.map_none, List.all_cons, List.all_nil, Sl.dp, Bool.and_true, Bool.true_and, and_self, and_true, true_and, if_true, if_false, ite_true, ite_false, Bool.false_eq_true, reduceCtorEq, reduceIte, Bool.not_true, Bool.not_false, gEq_str, gEq_int, gAdd_int, le_line, Nat.reduceLeDiff, Nat.reduceEqDiff, ne_eq, not_false_eq_true, cast_2, cast_3, cast_4, cast_5, cast_1, cast_0, eq_self, decide_true, decide_false, isi_tuple, dTup, gLen_tup, gGt, gCmp, hpI, e1, h8, sPar, notP, e2, e3, w0, c1, c4, g]
            · rcases List.mem_append.mp hy with z | z
              · exact up y (List.mem_of_mem_take z)
              · exact up y (List.mem_of_mem_drop z)
            · rw [weightAll_append]; omega
            · have := depth_sub (xs := xs) (ys := xs.take at_.toNat ++ xs.drop (at_.toNat + 1)) fun y hy => (List.mem_append.mp hy).elim List.mem_of_mem_take List.mem_of_mem_drop
              omega
          | false =>
            cases w1 : decide (way = 1) with
            | true =>
              refine ⟨.tuple (xs.take (at_.toNat + 1) ++ xs.drop at_.toNat), π3, ?_, bt_tup (by rw [List.length_append]; omega) (fun y hy => ?_) ?_ ?_⟩
              · have g := gAdd_tup (xs := xs.take (at_.toNat + 1)) (ys := xs.drop at_.toNat) (by omega)
                simp only [mOf, mOfZ, mOfR, asRt, entry, List.length_cons, List.length_nil, List.replicate, List.cons_append, List.nil_append, Nat.reduceAdd, Nat.reduceSub, fV, fVx, fC, fB, fBN, fU, fUN, fL, fIsi, fAndV, fOrV, fNotV, fTv, asB, asL, asT, fNotT, fAndT, fOrT, fIf, fIfN, fCh, fCl, fClN, aNil, aD, aN, aP, fNil, fCons, fTup, fLst, sNil, sSeq, sSet, sSetM, sRet, sRetN, sIf, sBrk, sCnt, sDrop, sFor, rSeq, sFrz, iL, iT, iS, iE, iZ, iR1, iR2, oNone, oSome, fSlA, fSlL, fPot, sPot, gPot, sPotN, List.getElem?_cons_zero, List.getElem?_cons_succ, List.set_cons_zero, List.set_cons_succ, Option.bind_some, Option.map_some, Option.bind_none, Option.map_none, List.all_cons, List.all_nil, Sl.dp, Bool.and_true, Bool.true_and, and_self, and_true, true_and, if_true, if_false, ite_true, ite_false, Bool.false_eq_true, reduceCtorEq, reduceIte, Bool.not_true, Bool.not_false, gEq_str, gEq_int, gAdd_int, le_line, Nat.reduceLeDiff, Nat.reduceEqDiff, ne_eq, not_false_eq_true, cast_2, cast_3, cast_4, cast_5, cast_1, cast_0, eq_self, decide_true, decide_false, isi_tuple, dTup, gLen_tup, gGt, gCmp, hpI, e1, h8, sPar, notP, e2, e3, w0, w1, c3, c2, g]
              · rcases List.mem_append.mp hy with z | z
                · exact up y (List.mem_of_mem_take z)
                · exact up y (List.mem_of_mem_drop z)
              · rw [weightAll_append]; omega
              · have := depth_sub (xs := xs) (ys := xs.take (at_.toNat + 1) ++ xs.drop at_.toNat) fun y hy => (List.mem_append.mp hy).elim List.mem_of_mem_take List.mem_of_mem_drop
                omega
            | false =>
              cases w2 : decide (way = 2) with
              | true =>
                refine ⟨.list xs, π3, ?_, vb_lst.mpr ⟨by omega, up⟩, by simp only [PyData.weight]; omega, by simp only [PyData.depth]; omega⟩
                simp only [mOf, mOfZ, mOfR, asRt, entry, List.length_cons, List.length_nil, List.replicate, List.cons_append, List.nil_append, Nat.reduceAdd, Nat.reduceSub, fV, fVx, fC, fB, fBN, fU, fUN, fL, fIsi, fAndV, fOrV, fNotV, fTv, asB, asL, asT, fNotT, fAndT, fOrT, fIf, fIfN, fCh, fCl, fClN, aNil, aD, aN, aP, fNil, fCons, fTup, fLst, sNil, sSeq, sSet, sSetM, sRet, sRetN, sIf, sBrk, sCnt, sDrop, sFor, rSeq, sFrz, iL, iT, iS, iE, iZ, iR1, iR2, oNone, oSome, fSlA, fSlL, fPot, sPot, gPot, sPotN, List.getElem?_cons_zero, List.getElem?_cons_succ, List.set_cons_zero, List.set_cons_succ, Option.bind_some, Option.map_some, Option.bind_none, Option.map_none, List.all_cons, List.all_nil, Sl.dp, Bool.and_true, Bool.true_and, and_self, and_true, true_and, if_true, if_false, ite_true, ite_false, Bool.false_eq_true, reduceCtorEq, reduceIte, Bool.not_true, Bool.not_false, gEq_str, gEq_int, gAdd_int, le_line, Nat.reduceLeDiff, Nat.reduceEqDiff, ne_eq, not_false_eq_true, cast_2, cast_3, cast_4, cast_5, cast_1, cast_0, eq_self, decide_true, decide_false, isi_tuple, dTup, gLen_tup, gGt, gCmp, hpI, e1, h8, sPar, notP, e2, e3, w0, w1, w2, gList]
              | false =>
                cases w3 : decide (way = 3) with
                | true =>
                  refine ⟨.tuple xs.reverse, π3, ?_, bt_tup (by rw [List.length_reverse]; omega) (fun y hy => up y (List.mem_reverse.mp hy)) (by rw [weightAll_reverse]; omega) ?_⟩
                  · simp only [mOf, mOfZ, mOfR, asRt, entry, List.length_cons, List.length_nil, List.replicate, List.cons_append, List.nil_append, Nat.reduceAdd, Nat.reduceSub, fV, fVx, fC, fB, fBN, fU, fUN, fL, fIsi, fAndV, fOrV, fNotV, fTv, asB, asL, asT, fNotT, fAndT, fOrT, fIf, fIfN, fCh, fCl, fClN, aNil, aD, aN, aP, fNil, fCons, fTup, fLst, sNil, sSeq, sSet, sSetM, sRet, sRetN, sIf, sBrk, sCnt, sDrop, sFor, rSeq, sFrz, iL, iT, iS, iE, iZ, iR1, iR2, oNone, oSome, fSlA, fSlL, fPot, sPot, gPot, sPotN, List.getElem?_cons_zero, List.getElem?_cons_succ, List.set_cons_zero, List.set_cons_succ, Option.bind_some, Option.map_some, Option.bind_none, Option.map_none, List.all_cons, List.all_nil, Sl.dp, Bool.and_true, Bool.true_and, and_self, and_true, true_and, if_true, if_false, ite_true, ite_false, Bool.false_eq_true, reduceCtorEq, reduceIte, Bool.not_true, Bool.not_false, gEq_str, gEq_int, gAdd_int, le_line, Nat.reduceLeDiff, Nat.reduceEqDiff, ne_eq, not_false_eq_true, cast_2, cast_3, cast_4, cast_5, cast_1, cast_0, eq_self, decide_true, decide_false, isi_tuple, dTup, gLen_tup, gGt, gCmp, hpI, e1, h8, sPar, notP, e2, e3, w0, w1, w2, w3, fRevT]
                  · have := depth_sub (xs := xs) (ys := xs.reverse) fun y hy => List.mem_reverse.mp hy
                    omega
                | false =>
                  have hm : xs[at_.toNat] ∈ xs := List.getElem_mem a3
                  have ix : L2.atI xs at_ = some xs[at_.toNat] := by rw [atI_pos _ a1, List.getElem?_eq_getElem a3]
                  have dm := depth_mem hm
                  obtain ⟨u, π4, e4, hu⟩ := e_bent n xs[at_.toNat] π3 m b c (hx _ hm) (by omega) h1 h2 (by rw [e20]; omega) (by rw [e20]; omega) h5 h6
                  have s3 : PyData.weightAll (xs.drop at_.toNat) = xs[at_.toNat].weight + 1 + PyData.weightAll (xs.drop (at_.toNat + 1)) := by
                    rw [List.drop_eq_getElem_cons a3]
                    simp only [PyData.weightAll]
                  refine ⟨.tuple ((xs.take at_.toNat ++ [u]) ++ xs.drop (at_.toNat + 1)), π4, ?_, bt_tup (by rw [List.length_append, List.length_append]; simp only [List.length_cons, List.length_nil]; omega) (fun y hy => ?_) ?_ ?_⟩
                  · have g1 := gAdd_tup (xs := xs.take at_.toNat) (ys := [u]) (by simp only [List.length_cons, List.length_nil]; omega)
                    have g2 := gAdd_tup (xs := xs.take at_.toNat ++ [u]) (ys := xs.drop (at_.toNat + 1)) (by rw [List.length_append]; simp only [List.length_cons, List.length_nil]; omega)
                    simp only [mOf, mOfZ, mOfR, asRt, entry, List.length_cons, List.length_nil, List.replicate, List.cons_append, List.nil_append, Nat.reduceAdd, Nat.reduceSub, fV, fVx, fC, fB, fBN, fU, fUN, fL, fIsi, fAndV, fOrV, fNotV, fTv, asB, asL, asT, fNotT, fAndT, fOrT, fIf, fIfN, fCh, fCl, fClN, aNil, aD, aN, aP, fNil, fCons, fTup, fLst, sNil, sSeq, sSet, sSetM, sRet, sRetN, sIf, sBrk, sCnt, sDrop, sFor, rSeq, sFrz, iL, iT, iS, iE, iZ, iR1, iR2, oNone, oSome, fSlA, fSlL, fPot, sPot, gPot, sPotN, List.getElem?_cons_zero, List.getElem?_cons_succ, List.set_cons_zero, List.set_cons_succ, Option.bind_some, Option.map_some, Option.bind_none, Option.map_none, List.all_cons, List.all_nil, Sl.dp, Bool.and_true, Bool.true_and, and_self, and_true, true_and, if_true, if_false, ite_true, ite_false, Bool.false_eq_true, reduceCtorEq, reduceIte, Bool.not_true, Bool.not_false, gEq_str, gEq_int, gAdd_int, le_line, Nat.reduceLeDiff, Nat.reduceEqDiff, ne_eq, not_false_eq_true, cast_2, cast_3, cast_4, cast_5, cast_1, cast_0, eq_self, decide_true, decide_false, isi_tuple, dTup, gLen_tup, gGt, gCmp, hpI, e1, h8, sPar, notP, e2, e3, w0, w1, w2, w3, gIx_tup, ix, e4, c1, c4, g1, g2]
                  · rcases List.mem_append.mp hy with z | z
                    · rcases List.mem_append.mp z with z | z
                      · exact up y (List.mem_of_mem_take z)
                      · rw [List.mem_singleton] at z
                        rw [z]
                        exact hu.v
                    · exact up y (List.mem_of_mem_drop z)
                  · rw [weightAll_append, weightAll_append]
                    simp only [PyData.weightAll]
                    have := hu.w
                    omega
                  · rw [depthAll_append, depthAll_append]
                    have q1 := depth_sub (xs := xs) (ys := xs.take at_.toNat) fun y hy => List.mem_of_mem_take hy
                    have q2 := depth_sub (xs := xs) (ys := xs.drop (at_.toNat + 1)) fun y hy => List.mem_of_mem_drop hy
                    have q3 : PyData.depthAll [u] ≤ xs[at_.toNat].depth + 1 := by
                      simp only [PyData.depthAll]
                      have := hu.d
                      omega
                    omega
end Law10

set_option maxHeartbeats 2000000
namespace Law10
open PySem DL
set_option autoImplicit false
abbrev B20 : Int := 100000000000000000000
theorem b20 : B20 ≤ 10 ^ 20 + 10 := by decide
theorem sint {i : Int} (h1 : -1000 ≤ i) (h2 : i ≤ 1000) : Bt 40 B20 20 68 0 (.int i) := by
  have e : B20 = 100000000000000000000 := rfl
  exact Bt.int (by omega) (by omega) b20
theorem names6_ok : ∀ u ∈ names6, Bt 40 B20 20 68 0 u ∧ ∃ z, u = .str z ∧ (decide (z = "") || nameB z) = true := fun u hu => by
  simp only [List.mem_cons, List.not_mem_nil, or_false] at hu
  rcases hu with rfl | rfl | rfl | rfl | rfl | rfl <;> exact ⟨btB_ok (by decide +kernel), _, rfl, by decide +kernel⟩
theorem ints_bt {ns : List Int} {p : Int} (hp : p ≤ 16) (h : ∀ n ∈ ns, 0 ≤ n ∧ n ≤ p - 1) (hl : ns.length ≤ 2) : Bt 40 B20 20 138 1 (.tuple (ns.map PyData.int)) :=
  Bt.tup (W := 68) (D := 0) (fun y hy => by
    obtain ⟨n, hn, rfl⟩ := List.mem_map.mp hy
    have := h n hn
    exact sint (by omega) (by omega)) (by rw [List.length_map]; omega) (by rw [List.length_map]; omega) (by omega)
theorem TG.bt {p : Int} {t : PyData} (h : TG p t) (hp : p ≤ 16) : Bt 40 B20 20 417 2 t := by
  obtain ⟨nm, n1, n2, rfl, h1, h2, h3, h4, h5, h6, h7, h8⟩ := h.ex
  refine Bt.tup (W := 138) (D := 1) (fun y hy => ?_) (by simp) (by simp) (by omega)
  simp only [List.mem_cons, List.not_mem_nil, or_false] at hy
  rcases hy with rfl | rfl | rfl
  · exact (names6_ok _ h1).1.mono (by omega) (by omega) (by omega) (by omega) (by omega)
  · exact ints_bt hp h3 h4
  · exact ints_bt hp h7 h8
theorem TG.task {p : Int} {t : PyData} (h : TG p t) : dTask p t = true := by
  obtain ⟨nm, n1, n2, rfl, h1, h2, h3, h4, h5, h6, h7, h8⟩ := h.ex
  obtain ⟨_, z, rfl, hz⟩ := names6_ok _ h1
  simp only [dTask, dTask3, hz, dPlaces_ints p n1 h3, dPlaces_ints p n2 h7, h2, h6, Bool.true_and, Bool.and_true]
  cases n1 with
  | nil => exact absurd rfl h5
  | cons a r => rfl
theorem row_bt {xs : List PyData} {p : Int} (hp : p ≤ 16) (h1 : (xs.length : Int) = p) (h : ∀ x ∈ xs, small2 x) : Bt 40 B20 20 1104 1 (.tuple xs) :=
  Bt.tup (W := 68) (D := 0) (fun y hy => by
    obtain ⟨n, rfl, q1, q2⟩ := h y hy
    exact sint (by omega) (by omega)) (by omega) (by omega) (by omega)
theorem row_stand {xs : List PyData} {p : Int} (h1 : (xs.length : Int) = p) (h : ∀ x ∈ xs, small2 x) : dStand p (.tuple xs) = true := by
  simp only [dStand, h1, decide_true, Bool.true_and, List.all_eq_true]
  intro x hx
  obtain ⟨n, rfl, q1, q2⟩ := h x hx
  simp only [dIn, Bool.and_eq_true, decide_eq_true_eq]
  omega
section
variable {p : Int} {ts fs ls : List PyData}
abbrev shD (p : Int) (ts fs ls : List PyData) : PyData := .tuple [.str "sheet", .int p, .tuple ts, .tuple fs, .tuple ls]
theorem GS.tasks (g : GS p ts fs ls) : Bt 40 B20 20 10032 3 (.tuple ts) :=
  Bt.tup (W := 417) (D := 2) (fun y hy => (g.tg y hy).bt g.p2) (by have := g.t2; omega) (by have := g.t2; omega) (by omega)
theorem sheetW : Bt 40 B20 20 10032 3 (.str "sheet") := btB_ok (by decide +kernel)
theorem GS.mem (g : GS p ts fs ls) : ∀ y ∈ ([.str "sheet", .int p, .tuple ts, .tuple fs, .tuple ls] : List PyData), Bt 40 B20 20 10032 3 y := fun y hy => by
  have h1 := g.p1
  have h2 := g.p2
  simp only [List.mem_cons, List.not_mem_nil, or_false] at hy
  rcases hy with rfl | rfl | rfl | rfl | rfl
  · exact sheetW
  · exact (sint (by omega) (by omega)).mono (by omega) (by omega) (by omega) (by omega) (by omega)
  · exact g.tasks
  · exact (row_bt h2 g.f1 g.f2).mono (by omega) (by omega) (by omega) (by omega) (by omega)
  · exact (row_bt h2 g.l1 g.l2).mono (by omega) (by omega) (by omega) (by omega) (by omega)
theorem GS.bt (g : GS p ts fs ls) : Bt 40 B20 20 50200 4 (shD p ts fs ls) := Bt.tup (W := 10032) (D := 3) g.mem (by simp) (by simp) (by omega)
theorem GS.flaw (g : GS p ts fs ls) : flawS (shD p ts fs ls) = .none := by
  have h1 := g.p1
  have h2 := g.p2
  have e1 : dIn 1 16 (.int p) = true := by simp only [dIn, Bool.and_eq_true, decide_eq_true_eq]; omega
  have e2 : dIn 1 24 (.int ts.length) = true := by
    have := g.t1
    have := g.t2
    simp only [dIn, Bool.and_eq_true, decide_eq_true_eq]
    omega
  have e3 : isNone (flaw4 p ts (.tuple fs) (.tuple ls)) = true := by
    rw [flaw4_none, row_stand g.f1 g.f2, row_stand g.l1 g.l2]
    simp only [Bool.and_true, List.all_eq_true]
    exact fun t ht => (g.tg t ht).task
  have e4 : flaw4 p ts (.tuple fs) (.tuple ls) = .none := by
    cases h : flaw4 p ts (.tuple fs) (.tuple ls) with
    | none => rfl
    | _ => rw [h] at e3; cases e3
  simp only [flawS, flaw5, flaw2, e1, e2, e4, decide_true, if_true]
end
theorem TaskH.of {m : Nat} {b : Int} {c : Nat} {x : PyData} (h : vb m b c x = true) (hm : m ≤ 62) (hc : c ≤ 1000000) : TaskH x where
  name := fun a b' c' z e ea => by
    subst e ea
    obtain ⟨_, hx⟩ := vb_tup.mp h
    obtain ⟨h1, h2⟩ := vb_str.mp (hx _ List.mem_cons_self)
    exact ⟨by rw [sizeLine_eq]; omega, h1⟩
  one := fun a b' c' xs e ea => by
    subst e ea
    obtain ⟨_, hx⟩ := vb_tup.mp h
    obtain ⟨h1, _⟩ := vb_tup.mp (hx (.tuple xs) (by simp))
    omega
  two := fun a b' c' xs e ea => by
    subst e ea
    obtain ⟨_, hx⟩ := vb_tup.mp h
    obtain ⟨h1, _⟩ := vb_tup.mp (hx (.tuple xs) (by simp))
    omega
theorem SheetH.of2 {m : Nat} {b : Int} {c : Nat} {v : PyData} (h : vb m b c v = true) (hm : m ≤ 1000000) (ht : ∀ a p ts f l, v = .tuple [a, p, .tuple ts, f, l] → ∀ t ∈ ts, TaskH t) : SheetH v where
  tasks := ht
  fst := fun a p t xs l e => by
    subst e
    obtain ⟨_, hx⟩ := vb_tup.mp h
    obtain ⟨h1, _⟩ := vb_tup.mp (hx (.tuple xs) (by simp))
    exact len_line (by omega)
  lst := fun a p t f xs e => by
    subst e
    obtain ⟨_, hx⟩ := vb_tup.mp h
    obtain ⟨h1, _⟩ := vb_tup.mp (hx (.tuple xs) (by simp))
    exact len_line (by omega)
theorem SheetH.of {m : Nat} {b : Int} {c : Nat} {v : PyData} (h : vb m b c v = true) (hm : m ≤ 62) (hc : c ≤ 1000000) : SheetH v :=
  SheetH.of2 h (by omega) fun a p ts f l e t ht => by
    subst e
    obtain ⟨_, hx⟩ := vb_tup.mp h
    obtain ⟨_, hy⟩ := vb_tup.mp (hx (.tuple ts) (by simp))
    exact TaskH.of (hy t ht) hm hc
structure VG (v : PyData) : Prop where
  s : SheetH v
  r : gRepr v = some (.str v.shown)
theorem VG.of {m : Nat} {b : Int} {c W D : Nat} {v : PyData} (h : Bt m b c W D v) (hm : m ≤ 62) (hb : b ≤ 10 ^ 20 + 10) (hc : c ≤ 1000000) (hW : W ≤ 600000) (hD : D ≤ 60) : VG v := ⟨SheetH.of h.v hm hc, h.repr hb hW hD⟩
end Law10

set_option maxHeartbeats 2000000
namespace Law10
open PySem DL
set_option autoImplicit false
theorem eg5 {a p t f l : PyData} (ha : Bt 1000 B20 20 20000 5 a) (hp : Bt 1000 B20 20 20000 5 p) (ht : Bt 1000 B20 20 300000 5 t) (ht2 : ∀ ts, t = .tuple ts → ∀ x ∈ ts, vb 40 B20 20 x = true) (hf : Bt 1000 B20 20 20000 5 f) (hl : Bt 1000 B20 20 20000 5 l) : VG (.tuple [a, p, t, f, l]) := by
  have hb : Bt 1000 B20 20 600000 10 (.tuple [a, p, t, f, l]) := by
    refine bt_tup (by simp) (fun y hy => ?_) ?_ ?_
    · simp only [List.mem_cons, List.not_mem_nil, or_false] at hy
      rcases hy with rfl | rfl | rfl | rfl | rfl
      · exact ha.v
      · exact hp.v
      · exact ht.v
      · exact hf.v
      · exact hl.v
    · have := ha.w
      have := hp.w
      have := ht.w
      have := hf.w
      have := hl.w
      simp only [PyData.weightAll]
      omega
    · have := ha.d
      have := hp.d
      have := ht.d
      have := hf.d
      have := hl.d
      simp only [PyData.depthAll]
      omega
  refine ⟨SheetH.of2 hb.v (by omega) fun a' p' ts f' l' e x hx => ?_, hb.repr b20 (by omega) (by omega)⟩
  cases e
  exact TaskH.of (ht2 ts rfl x hx) (by omega) (by omega)
theorem _root_.DL.Bt.up {W D : Nat} {u : PyData} (h : Bt 40 B20 20 W D u) (hW : W ≤ 20000) (hD : D ≤ 5) : Bt 1000 B20 20 20000 5 u := h.mono (by omega) (Int.le_refl _) (by omega) hW hD
theorem rep_bt {i : Int} (h1 : -1000 ≤ i) (h2 : i ≤ 1000) {k : Nat} (hk : k ≤ 40) : Bt 40 B20 20 5000 1 (.tuple (List.replicate k [PyData.int i]).flatten) :=
  Bt.tup (W := 68) (D := 0) (fun y hy => by
    have := rep_mem hy
    rw [List.mem_singleton] at this
    rw [this]
    exact sint h1 h2) (by rw [rep_len]; simp; omega) (by rw [rep_len]; simp; omega) (by omega)
abbrev manyL : List PyData := [.int 15, .int 16, .int 17]
theorem manyL_ok {j : Nat} {x : PyData} (h : manyL[j]? = some x) : ∃ k : Int, x = .int k ∧ 15 ≤ k ∧ k ≤ 17 := by
  have hm : x ∈ manyL := List.mem_of_getElem? h
  simp only [List.mem_cons, List.not_mem_nil, or_false] at hm
  rcases hm with rfl | rfl | rfl
  · exact ⟨15, rfl, by omega, by omega⟩
  · exact ⟨16, rfl, by omega, by omega⟩
  · exact ⟨17, rfl, by omega, by omega⟩
abbrev nameL : List PyData := [.str (repS "a" 12), .str (repS "a" 13), .str "", .str "z_9", .str "9z", .str "aB", .str "a b", .str "_"]
theorem nameL_ok {j : Nat} {x : PyData} (h : nameL[j]? = some x) : Bt 40 B20 20 68 0 x :=
  btB_ok ((List.all_eq_true.mp (by decide +kernel : nameL.all (btB 40 B20 20 68 0) = true)) x (List.mem_of_getElem? h))
theorem upTo_bt {k : Int} (h1 : 0 ≤ k) (h2 : k ≤ 17) : Bt 40 B20 20 5000 1 (.tuple (DL.upTo 0 k.toNat)) :=
  Bt.tup (W := 68) (D := 0) (fun y hy => by
    obtain ⟨j, rfl, hj⟩ := upTo_mem hy
    exact sint (by omega) (by omega)) (by rw [upTo_length]; omega) (by rw [upTo_length]; omega) (by omega)
theorem pair_bt {i : Int} (h1 : -1000 ≤ i) (h2 : i ≤ 1000) : Bt 40 B20 20 5000 1 (.tuple [.int i]) :=
  Bt.tup (W := 68) (D := 0) (fun y hy => by
    rw [List.mem_singleton] at hy
    rw [hy]
    exact sint h1 h2) (by simp) (by simp) (by omega)
theorem e_edges {p : Int} {ts fs ls : List PyData} (g : GS p ts fs ls) (π : Pt) : ∃ es π', m__law_edges [.d (shD p ts fs ls)] π = some (.list es, π') ∧ es.length ≤ 100 ∧ ∀ e ∈ es, VG e := by
  have hp1 := g.p1
  have hp2 := g.p2
  have ht1 := g.t1
  have ht2 := g.t2
  have hw : Bt 1000 B20 20 20000 5 (.str "sheet") := sheetW.up (by omega) (by omega)
  have hpb : Bt 1000 B20 20 20000 5 (.int p) := (sint (by omega) (by omega)).up (by omega) (by omega)
  have hf : Bt 1000 B20 20 20000 5 (.tuple fs) := (row_bt hp2 g.f1 g.f2).up (by omega) (by omega)
  have hl : Bt 1000 B20 20 20000 5 (.tuple ls) := (row_bt hp2 g.l1 g.l2).up (by omega) (by omega)
  have tn : ts ≠ [] := fun z => by rw [z] at ht1; simp at ht1
  have tn1 : ts.take 1 ≠ [] := fun z => by
    have : (ts.take 1).length = 0 := by rw [z]; rfl
    rw [List.length_take] at this
    omega
  have g1 := gMul_rep (xs := ts) (k := 25) tn (by omega) (by omega) (by omega)
  have g2 := gMul_rep (xs := ts.take 1) (k := 24) tn1 (by omega) (by omega) (by rw [List.length_take]; omega)
  have g3 := gMul_rep (xs := ts.take 1) (k := 25) tn1 (by omega) (by omega) (by rw [List.length_take]; omega)
  have c1 : cutD ts none (some 1) = ts.take 1 := cutD_to ts 1
  have tsB : ∀ (xs : List PyData) (k : Nat), (∀ x ∈ xs, x ∈ ts) → k * xs.length ≤ 600 → Bt 1000 B20 20 300000 5 (.tuple (List.replicate k xs).flatten) ∧ ∀ us, PyData.tuple (List.replicate k xs).flatten = .tuple us → ∀ x ∈ us, vb 40 B20 20 x = true := fun xs k hx hk => by
    have hm : ∀ y ∈ (List.replicate k xs).flatten, Bt 40 B20 20 417 2 y := fun y hy => (g.tg y (hx y (rep_mem hy))).bt hp2
    refine ⟨Bt.tup (W := 417) (D := 2) (fun y hy => (hm y hy).mono (by omega) (Int.le_refl _) (by omega) (by omega) (by omega)) (by rw [rep_len]; omega) (by rw [rep_len]; omega) (by omega), fun us e x hx => ?_⟩
    cases e
    exact (hm x hx).v
  obtain ⟨t1, t1'⟩ := tsB ts 25 (fun x hx => hx) (by omega)
  obtain ⟨t2, t2'⟩ := tsB (ts.take 1) 24 (fun x hx => List.mem_of_mem_take hx) (by rw [List.length_take]; omega)
  obtain ⟨t3, t3'⟩ := tsB (ts.take 1) 25 (fun x hx => List.mem_of_mem_take hx) (by rw [List.length_take]; omega)
  have r1 : gMulS (.str "a") (.int 12) = some (.str (repS "a" 12)) := by
    unfold gMulS
    exact if_pos (by decide +kernel)
  have r2 : gMulS (.str "a") (.int 13) = some (.str (repS "a" 13)) := by
    unfold gMulS
    exact if_pos (by decide +kernel)
  have loop1 := forM_inv (π := π) (t := tName 7) (g := (sSeq (sSet 8 (fTup (fCons (fTup (fCons (fC (.str "a")) (fCons (fU gTupRg (fVx 7)) (fCons (fTup (fCons (fB gSubI (fVx 7) (fC (.int 1))) fNil)) fNil)))) fNil))) (sSeq (sApp 6 (fTup (fCons (fV 1) (fCons (fV 7) (fCons (fV 8) (fCons (fB gMul (fTup (fCons (fC (.int 9)) fNil)) (fVx 7)) (fCons (fB gMul (fTup (fCons (fC (.int 0)) fNil)) (fVx 7)) fNil))))))) (sSeq (sApp 6 (fTup (fCons (fV 1) (fCons (fV 7) (fCons (fV 8) (fCons (fB gAdd (fTup (fCons (fC (.int 10)) fNil)) (fB gMul (fTup (fCons (fC (.int 0)) fNil)) (fB gSubI (fVx 7) (fC (.int 1))))) (fCons (fB gMul (fTup (fCons (fC (.int 0)) fNil)) (fVx 7)) fNil))))))) (sApp 6 (fTup (fCons (fV 1) (fCons (fV 7) (fCons (fV 8) (fCons (fB gMul (fTup (fCons (fC (.int 0)) fNil)) (fVx 7)) (fCons (fB gAdd (fB gMul (fTup (fCons (fC (.int 0)) fNil)) (fB gSubI (fVx 7) (fC (.int 1)))) (fTup (fCons (fC (.int 10)) fNil))) fNil)))))))))))
    (fun i ρ => ∃ (es : List PyData) (s7 s8 : Sl), ρ = [.d (shD p ts fs ls), .d (.str "sheet"), .d (.int p), .d (.tuple ts), .d (.tuple fs), .d (.tuple ls), .m es, s7, s8, .e] ∧ es.length ≤ 3 + 3 * i ∧ ∀ e ∈ es, VG e)
    manyL 0 _ ⟨[.tuple [.str "sheet", .int p, .tuple (List.replicate (25 : Int).toNat ts).flatten, .tuple fs, .tuple ls], .tuple [.str "sheet", .int p, .tuple (List.replicate (24 : Int).toNat (ts.take 1)).flatten, .tuple fs, .tuple ls], .tuple [.str "sheet", .int p, .tuple (List.replicate (25 : Int).toNat (ts.take 1)).flatten, .tuple fs, .tuple ls]], .e, .e, rfl, by simp, fun e he => by
        simp only [List.mem_cons, List.not_mem_nil, or_false] at he
        rcases he with rfl | rfl | rfl
        · exact eg5 hw hpb t1 t1' hf hl
        · exact eg5 hw hpb t2 t2' hf hl
        · exact eg5 hw hpb t3 t3' hf hl⟩ (by
      rintro j x hx ρ π ⟨es, s7, s8, rfl, hel, hev⟩
      obtain ⟨k, rfl, k1, k2⟩ := manyL_ok hx
      have hj : j < 3 := by
        have := (List.getElem?_eq_some_iff.mp hx).1
        simpa using this
      have q1 := gMul_rep (xs := [.int 9]) (k := k) (by simp) (by omega) (by omega) (by simp)
      have q2 := gMul_rep (xs := [.int 0]) (k := k) (by simp) (by omega) (by omega) (by simp)
      have q3 := gMul_rep (xs := [.int 0]) (k := k - 1) (by simp) (by omega) (by omega) (by simp)
      have q4 : gTupRg (.int k) = some (.tuple (DL.upTo 0 k.toNat)) := by
        unfold gTupRg
        exact if_pos ⟨by omega, by omega⟩
      have len3 : (List.replicate (k - 1).toNat [PyData.int 0]).flatten.length ≤ 20 := by rw [rep_len]; simp; omega
      have q5 := gAdd_tup (xs := [.int 10]) (ys := (List.replicate (k - 1).toNat [PyData.int 0]).flatten) (by simp only [List.length_cons, List.length_nil]; omega)
      have q6 := gAdd_tup (ys := [.int 10]) (xs := (List.replicate (k - 1).toNat [PyData.int 0]).flatten) (by simp only [List.length_cons, List.length_nil]; omega)
      have l1 := lt_line1 (n := es.length) (by omega)
      have l2 := lt_line1 (n := es.length + 1) (by omega)
      have l3 := lt_line1 (n := es.length + 1 + 1) (by omega)
      have row : Bt 40 B20 20 20000 3 (.tuple [.tuple [.str "a", .tuple (DL.upTo 0 k.toNat), .tuple [.int (k - 1)]]]) := by
        refine Bt.tup (W := 15003) (D := 2) (fun y hy => ?_) (by simp) (by simp) (by omega)
        rw [List.mem_singleton] at hy
        subst hy
        refine Bt.tup (W := 5000) (D := 1) (fun y hy => ?_) (by simp) (by simp) (by omega)
        simp only [List.mem_cons, List.not_mem_nil, or_false] at hy
        rcases hy with rfl | rfl | rfl
        · exact btB_ok (by decide +kernel)
        · exact upTo_bt (by omega) (by omega)
        · exact pair_bt (by omega) (by omega)
      have row2 : ∀ us, PyData.tuple [.tuple [.str "a", .tuple (DL.upTo 0 k.toNat), .tuple [.int (k - 1)]]] = .tuple us → ∀ x ∈ us, vb 40 B20 20 x = true := fun us e x hx => by
        cases e
        exact (vb_tup.mp row.v).2 x hx
      have rowB := row.mono (m' := 1000) (W' := 300000) (D' := 5) (by omega) (Int.le_refl _) (Nat.le_refl _) (by omega) (by omega)
      have kB : Bt 1000 B20 20 20000 5 (.int k) := (sint (by omega) (by omega)).up (by omega) (by omega)
      have n9 : Bt 1000 B20 20 20000 5 (.tuple (List.replicate k.toNat [PyData.int 9]).flatten) := (rep_bt (by omega) (by omega) (by omega)).up (by omega) (by omega)
      have n0 : Bt 1000 B20 20 20000 5 (.tuple (List.replicate k.toNat [PyData.int 0]).flatten) := (rep_bt (by omega) (by omega) (by omega)).up (by omega) (by omega)
      have all10 : ∀ y, y = PyData.int 10 ∨ y ∈ (List.replicate (k - 1).toNat [PyData.int 0]).flatten → Bt 40 B20 20 68 0 y := fun y hy => by
        rcases hy with rfl | hy
        · exact sint (by omega) (by omega)
        · have := rep_mem hy
          rw [List.mem_singleton] at this
          rw [this]
          exact sint (by omega) (by omega)
      have n10 : Bt 1000 B20 20 20000 5 (.tuple ([.int 10] ++ (List.replicate (k - 1).toNat [PyData.int 0]).flatten)) := by
        refine Bt.up (W := 20000) (D := 1) (Bt.tup (W := 68) (D := 0) (fun y hy => all10 y ?_) ?_ ?_ (by omega)) (by omega) (by omega)
        · rcases List.mem_append.mp hy with z | z
          · exact .inl (List.mem_singleton.mp z)
          · exact .inr z
        · rw [List.length_append]; simp only [List.length_cons, List.length_nil]; omega
        · rw [List.length_append]; simp only [List.length_cons, List.length_nil]; omega
      have n01 : Bt 1000 B20 20 20000 5 (.tuple ((List.replicate (k - 1).toNat [PyData.int 0]).flatten ++ [.int 10])) := by
        refine Bt.up (W := 20000) (D := 1) (Bt.tup (W := 68) (D := 0) (fun y hy => all10 y ?_) ?_ ?_ (by omega)) (by omega) (by omega)
        · rcases List.mem_append.mp hy with z | z
          · exact .inr z
          · exact .inl (List.mem_singleton.mp z)
        · rw [List.length_append]; simp only [List.length_cons, List.length_nil]; omega
        · rw [List.length_append]; simp only [List.length_cons, List.length_nil]; omega
      refine ⟨_, _, π, by simp only [mOf, mOfZ, mOfR, asRt, entry, List.length_cons, List.length_nil, List.replicate, List.cons_append, List.nil_append, Nat.reduceAdd, Nat.reduceSub, fV, fVx, fC, fB, fBN, fU, fUN, fL, fIsi, fAndV, fOrV, fNotV, fTv, asB, asL, asT, fNotT, fAndT, fOrT, fIf, fIfN, fCh, fCl, fClN, aNil, aD, aN, aP, fNil, fCons, fTup, fLst, sNil, sSeq, sSet, sSetM, sRet, sRetN, sIf, sBrk, sCnt, sDrop, sFor, rSeq, sFrz, iL, iT, iS, iE, iZ, iR1, iR2, oNone, oSome, fSlA, fSlL, fPot, sPot, gPot, sPotN, List.getElem?_cons_zero, List.getElem?_cons_succ, List.set_cons_zero, List.set_cons_succ, Option.bind_some, Option.map_some, Option.bind_none, Option.map_none, List.all_cons, List.all_nil, Sl.dp, Bool.and_true, Bool.true_and, and_self, and_true, true_and, if_true, if_false, ite_true, ite_false, Bool.false_eq_true, reduceCtorEq, reduceIte, Bool.not_true, Bool.not_false, gEq_str, gEq_int, gAdd_int, le_line, Nat.reduceLeDiff, Nat.reduceEqDiff, ne_eq, not_false_eq_true, cast_2, cast_3, cast_4, cast_5, cast_1, cast_0, eq_self, decide_true, decide_false, tName]; rfl, by simp only [mOf, mOfZ, mOfR, asRt, entry, List.length_cons, List.length_nil, List.replicate, List.cons_append, List.nil_append, Nat.reduceAdd, Nat.reduceSub, fV, fVx, fC, fB, fBN, fU, fUN, fL, fIsi, fAndV, fOrV, fNotV, fTv, asB, asL, asT, fNotT, fAndT, fOrT, fIf, fIfN, fCh, fCl, fClN, aNil, aD, aN, aP, fNil, fCons, fTup, fLst, sNil, sSeq, sSet, sSetM, sRet, sRetN, sIf, sBrk, sCnt, sDrop, sFor, rSeq, sFrz, iL, iT, iS, iE, iZ, iR1, iR2, oNone, oSome, fSlA, fSlL, fPot, sPot, gPot, sPotN, List.getElem?_cons_zero, List.getElem?_cons_succ, List.set_cons_zero, List.set_cons_succ, Option.bind_some, Option.map_some, Option.bind_none, Option.map_none, List.all_cons, List.all_nil, Sl.dp, Bool.and_true, Bool.true_and, and_self, and_true, true_and, if_true, if_false, ite_true, ite_false, Bool.false_eq_true, reduceCtorEq, reduceIte, Bool.not_true, Bool.not_false, gEq_str, gEq_int, gAdd_int, le_line, Nat.reduceLeDiff, Nat.reduceEqDiff, ne_eq, not_false_eq_true, cast_2, cast_3, cast_4, cast_5, cast_1, cast_0, eq_self, decide_true, decide_false, q4, gSubI, sApp, q1, q2, q3, q5, q6, l1, l2, l3, List.length_append]; rfl, _, _, _, rfl, ?_, fun e he => ?_⟩
      · simp only [List.length_append, List.length_cons, List.length_nil]; omega
      · rcases List.mem_append.mp he with he | he
        · rcases List.mem_append.mp he with he | he
          · rcases List.mem_append.mp he with he | he
            · exact hev e he
            · rw [List.mem_singleton] at he
              rw [he]
              exact eg5 hw kB rowB row2 n9 n0
          · rw [List.mem_singleton] at he
            rw [he]
            exact eg5 hw kB rowB row2 n10 n0
        · rw [List.mem_singleton] at he
          rw [he]
          exact eg5 hw kB rowB row2 n0 n01)
  obtain ⟨ρ1, π1, e1, es1, s7, s8, rfl, hl1, hv1⟩ := loop1
  have loop2 := forM_inv (π := π1) (t := tName 9) (g := (sApp 6 (fTup (fCons (fV 1) (fCons (fC (.int 1)) (fCons (fTup (fCons (fTup (fCons (fV 9) (fCons (fTup (fCons (fC (.int 0)) fNil)) (fCons (fTup fNil) fNil)))) fNil)) (fCons (fTup (fCons (fC (.int 0)) fNil)) (fCons (fTup (fCons (fC (.int 9)) fNil)) fNil))))))))
    (fun i ρ => ∃ (es : List PyData) (s9 : Sl), ρ = [.d (shD p ts fs ls), .d (.str "sheet"), .d (.int p), .d (.tuple ts), .d (.tuple fs), .d (.tuple ls), .m es, s7, s8, s9] ∧ es.length ≤ 12 + i ∧ ∀ e ∈ es, VG e)
    nameL 0 _ ⟨es1, .e, rfl, by simpa using hl1, hv1⟩ (by
      rintro j x hx ρ π ⟨es, s9, rfl, hel, hev⟩
      have hj : j < 8 := by
        have := (List.getElem?_eq_some_iff.mp hx).1
        simpa using this
      have hxb := nameL_ok hx
      have l1 := lt_line1 (n := es.length) (by omega)
      refine ⟨_, _, π, by simp only [mOf, mOfZ, mOfR, asRt, entry, List.length_cons, List.length_nil, List.replicate, List.cons_append, List.nil_append, Nat.reduceAdd, Nat.reduceSub, fV, fVx, fC, fB, fBN, fU, fUN, fL, fIsi, fAndV, fOrV, fNotV, fTv, asB, asL, asT, fNotT, fAndT, fOrT, fIf, fIfN, fCh, fCl, fClN, aNil, aD, aN, aP, fNil, fCons, fTup, fLst, sNil, sSeq, sSet, sSetM, sRet, sRetN, sIf, sBrk, sCnt, sDrop, sFor, rSeq, sFrz, iL, iT, iS, iE, iZ, iR1, iR2, oNone, oSome, fSlA, fSlL, fPot, sPot, gPot, sPotN, List.getElem?_cons_zero, List.getElem?_cons_succ, List.set_cons_zero, List.set_cons_succ, Option.bind_some, Option.map_some, Option.bind_none, Option.map_none, List.all_cons, List.all_nil, Sl.dp, Bool.and_true, Bool.true_and, and_self, and_true, true_and, if_true, if_false, ite_true, ite_false, Bool.false_eq_true, reduceCtorEq, reduceIte, Bool.not_true, Bool.not_false, gEq_str, gEq_int, gAdd_int, le_line, Nat.reduceLeDiff, Nat.reduceEqDiff, ne_eq, not_false_eq_true, cast_2, cast_3, cast_4, cast_5, cast_1, cast_0, eq_self, decide_true, decide_false, tName]; rfl, by simp only [mOf, mOfZ, mOfR, asRt, entry, List.length_cons, List.length_nil, List.replicate, List.cons_append, List.nil_append, Nat.reduceAdd, Nat.reduceSub, fV, fVx, fC, fB, fBN, fU, fUN, fL, fIsi, fAndV, fOrV, fNotV, fTv, asB, asL, asT, fNotT, fAndT, fOrT, fIf, fIfN, fCh, fCl, fClN, aNil, aD, aN, aP, fNil, fCons, fTup, fLst, sNil, sSeq, sSet, sSetM, sRet, sRetN, sIf, sBrk, sCnt, sDrop, sFor, rSeq, sFrz, iL, iT, iS, iE, iZ, iR1, iR2, oNone, oSome, fSlA, fSlL, fPot, sPot, gPot, sPotN, List.getElem?_cons_zero, List.getElem?_cons_succ, List.set_cons_zero, List.set_cons_succ, Option.bind_some, Option.map_some, Option.bind_none, Option.map_none, List.all_cons, List.all_nil, Sl.dp, Bool.and_true, Bool.true_and, and_self, and_true, true_and, if_true, if_false, ite_true, ite_false, Bool.false_eq_true, reduceCtorEq, reduceIte, Bool.not_true, Bool.not_false, gEq_str, gEq_int, gAdd_int, le_line, Nat.reduceLeDiff, Nat.reduceEqDiff, ne_eq, not_false_eq_true, cast_2, cast_3, cast_4, cast_5, cast_1, cast_0, eq_self, decide_true, decide_false, sApp, l1]; rfl, _, _, rfl, ?_, fun e he => ?_⟩
      · simp only [List.length_append, List.length_cons, List.length_nil]; omega
      · rcases List.mem_append.mp he with he | he
        · exact hev e he
        · rw [List.mem_singleton] at he
          rw [he]
          have row : Bt 40 B20 20 20000 3 (.tuple [.tuple [x, .tuple [.int 0], .tuple []]]) := by
            refine Bt.tup (W := 15003) (D := 2) (fun y hy => ?_) (by simp) (by simp) (by omega)
            rw [List.mem_singleton] at hy
            subst hy
            refine Bt.tup (W := 5000) (D := 1) (fun y hy => ?_) (by simp) (by simp) (by omega)
            simp only [List.mem_cons, List.not_mem_nil, or_false] at hy
            rcases hy with rfl | rfl | rfl
            · exact hxb.mono (by omega) (Int.le_refl _) (by omega) (by omega) (by omega)
            · exact pair_bt (by omega) (by omega)
            · exact btB_ok (by decide +kernel)
          refine eg5 hw ((sint (i := 1) (by omega) (by omega)).up (by omega) (by omega)) (row.mono (by omega) (Int.le_refl _) (by omega) (by omega) (by omega)) (fun us e x hx => ?_) ((pair_bt (i := 0) (by omega) (by omega)).up (by omega) (by omega)) ((pair_bt (i := 9) (by omega) (by omega)).up (by omega) (by omega))
          cases e
          exact (vb_tup.mp row.v).2 x hx)
  obtain ⟨ρ2, π2, e2, es2, s9, rfl, hl2, hv2⟩ := loop2
  have lens : es2.length ≤ 20 := by simpa using hl2
  have cat : es2.length + 3 ≤ sizeLine := by rw [sizeLine_eq]; omega
  refine ⟨es2 ++ [.tuple [.str "sheet", .int 0, .tuple ts, .tuple [], .tuple []], .tuple [.str "sheet", .bool true, .tuple [.tuple [.str "a", .tuple [.int 0], .tuple []]], .tuple [.int 1], .tuple [.int 1]], .tuple [.str "sheet", .int p, .tuple [], .tuple fs, .tuple ls]], π2, ?_, ?_, fun e he => ?_⟩
  · unfold m__law_edges g__law_edges
    simp only [mOf, mOfZ, mOfR, asRt, entry, List.length_cons, List.length_nil, List.replicate, List.cons_append, List.nil_append, Nat.reduceAdd, Nat.reduceSub, fV, fVx, fC, fB, fBN, fU, fUN, fL, fIsi, fAndV, fOrV, fNotV, fTv, asB, asL, asT, fNotT, fAndT, fOrT, fIf, fIfN, fCh, fCl, fClN, aNil, aD, aN, aP, fNil, fCons, fTup, fLst, sNil, sSeq, sSet, sSetM, sRet, sRetN, sIf, sBrk, sCnt, sDrop, sFor, rSeq, sFrz, iL, iT, iS, iE, iZ, iR1, iR2, oNone, oSome, fSlA, fSlL, fPot, sPot, gPot, sPotN, List.getElem?_cons_zero, List.getElem?_cons_succ, List.set_cons_zero, List.set_cons_succ, Option.bind_some, Option.map_some, Option.bind_none, Option.map_none, List.all_cons, List.all_nil, Sl.dp, Bool.and_true, Bool.true_and, and_self, and_true, true_and, if_true, if_false, ite_true, ite_false, Bool.false_eq_true, reduceCtorEq, reduceIte, Bool.not_true, Bool.not_false, gEq_str, gEq_int, gAdd_int, le_line, Nat.reduceLeDiff, Nat.reduceEqDiff, ne_eq, not_false_eq_true, cast_2, cast_3, cast_4, cast_5, cast_1, cast_0, eq_self, decide_true, decide_false, sUnp, tTupG, tsCons, tName, tsNil, g1, g2, g3, c1, r1, r2, e1, e2, gCatL, cat]
  · simp only [List.length_append, List.length_cons, List.length_nil]; omega
  · rcases List.mem_append.mp he with he | he
    · exact hv2 e he
    · have tsv : ∀ us, PyData.tuple ts = .tuple us → ∀ x ∈ us, vb 40 B20 20 x = true := fun us e x hx => by
        cases e
        exact ((g.tg x hx).bt hp2).v
      simp only [List.mem_cons, List.not_mem_nil, or_false] at he
      rcases he with rfl | rfl | rfl
      · exact eg5 hw (btB_ok (by decide +kernel)) (g.tasks.mono (by omega) (Int.le_refl _) (by omega) (by omega) (by omega)) tsv (btB_ok (by decide +kernel)) (btB_ok (by decide +kernel))
      · refine eg5 hw (btB_ok (by decide +kernel)) (btB_ok (by decide +kernel)) (fun us e x hx => ?_) (btB_ok (by decide +kernel)) (btB_ok (by decide +kernel))
        cases e
        rw [List.mem_singleton] at hx
        rw [hx]
        decide +kernel
      · refine eg5 hw hpb (btB_ok (by decide +kernel)) (fun us e x hx => ?_) hf hl
        cases e
        cases hx
end Law10

set_option maxHeartbeats 4000000
namespace Law10
open PySem DL
set_option autoImplicit false
theorem word_bt {w : Str} (h : btB 40 B20 20 200 1 (wordN w) = true) : Bt 40 B20 20 200 1 (wordN w) := btB_ok h
theorem due_bt (v : PyData) : Bt 40 B20 20 200 1 (flawS v) := by
  have w1 : Bt 40 B20 20 200 1 (wordN "form") := word_bt (by decide +kernel)
  have w2 : Bt 40 B20 20 200 1 (wordN "places") := word_bt (by decide +kernel)
  have w3 : Bt 40 B20 20 200 1 (wordN "tasks") := word_bt (by decide +kernel)
  have w4 : Bt 40 B20 20 200 1 (wordN "first") := word_bt (by decide +kernel)
  have w5 : Bt 40 B20 20 200 1 (wordN "last") := word_bt (by decide +kernel)
  unfold flawS
  split
  · unfold flaw5
    split
    · split
      · unfold flaw2
        split
        · split
          · split
            · rename_i ts
              split
              · rename_i ht
                simp only [dIn, Bool.and_eq_true, decide_eq_true_eq] at ht
                unfold flaw4
                split
                · rename_i x hx
                  obtain ⟨i, y, rfl, _, hi⟩ := numb_mem (List.mem_of_find?_eq_some hx)
                  refine Bt.tup (W := 68) (D := 0) (fun z hz => ?_) (by simp) (by simp) (by omega)
                  simp only [List.mem_cons, List.not_mem_nil, or_false] at hz
                  rcases hz with rfl | rfl
                  · exact btB_ok (by decide +kernel)
                  · exact sint (by omega) (by omega)
                · split
                  · split
                    · exact btB_ok (by decide +kernel)
                    · exact w5
                  · exact w4
              · exact w3
            · exact w3
          · exact w2
        · exact w2
      · exact w1
    · exact w1
  · exact w1
theorem told_repr (v : PyData) : gRepr (.list [flawS v, flawS v, .bool (isNone (flawS v)), .bool (isNone (flawS v))]) = some (.str (PyData.list [flawS v, flawS v, .bool (isNone (flawS v)), .bool (isNone (flawS v))]).shown) := by
  have h := due_bt v
  have b : ∀ k : Bool, Bt 40 B20 20 200 1 (.bool k) := fun k => by cases k <;> exact btB_ok (by decide +kernel)
  refine (Bt.lst (m := 40) (b := B20) (c := 20) (W := 200) (D := 1) (W' := 1000) (D' := 2) (fun y hy => ?_) (by simp) (by simp) (by omega)).repr b20 (by omega) (by omega)
  simp only [List.mem_cons, List.not_mem_nil, or_false] at hy
  rcases hy with rfl | rfl | rfl | rfl
  · exact h
  · exact h
  · exact b _
  · exact b _
theorem gIsN_none (neg : Bool) (x : PyData) : gIsN neg x .none = some (.bool (if neg = true then !isNone x else isNone x)) := rfl
abbrev gIn10 : MS := (sSeq (sPar 6 7 (aD (fCl 1 m__law_flaw (aD (fV 5) aNil)) (aD (fU gRepr (fVx 5)) aNil))) (sSeq (sSet 8 (fL (fLst (fCons (fCl 1 m_sheet_flaw (aD (fV 5) aNil)) (fCons (fCl 1 m_sheet_flaw (aD (fV 5) aNil)) (fCons (fCl 1 m_is_sheet (aD (fV 5) aNil)) (fCons (fCl 1 m_is_sheet (aD (fV 5) aNil)) fNil))))))) (sIf (fOrT (fTv (fB (gEq true) (fU gRepr (fVx 8)) (fU gRepr (fL (fLst (fCons (fV 6) (fCons (fV 6) (fCons (fB (gIsN false) (fVx 6) (fC .none)) (fCons (fB (gIsN false) (fVx 6) (fC .none)) fNil))))))))) (fTv (fB (gEq true) (fU gRepr (fVx 5)) (fVx 7)))) (sRet (fC (.bool false))) sNil)))
theorem e_body (v : PyData) (h : VG v) (s0 s1 s3 s4 s6 s7 s8 : Sl) (π : Pt) : gIn10 [s0, s1, .p, s3, s4, .d v, s6, s7, s8, .e] π = some (.nx [s0, s1, .p, s3, s4, .d v, .d (flawS v), .d (.str v.shown), .d (.list [flawS v, flawS v, .bool (isNone (flawS v)), .bool (isNone (flawS v))]), .e], π) := by
  have a1 := fun π => e_law_flaw v π h.s
  have a2 := fun π => e_sheet_flaw v π h.s
  have a3 := fun π => e_is_sheet v π h.s
  simp only [mOf, mOfZ, mOfR, asRt, entry, List.length_cons, List.length_nil, List.replicate, List.cons_append, List.nil_append, Nat.reduceAdd, Nat.reduceSub, fV, fVx, fC, fB, fBN, fU, fUN, fL, fIsi, fAndV, fOrV, fNotV, fTv, asB, asL, asT, fNotT, fAndT, fOrT, fIf, fIfN, fCh, fCl, fClN, aNil, aD, aN, aP, fNil, fCons, fTup, fLst, sNil, sSeq, sSet, sSetM, sRet, sRetN, sIf, sBrk, sCnt, sDrop, sFor, rSeq, sFrz, iL, iT, iS, iE, iZ, iR1, iR2, oNone, oSome, fSlA, fSlL, fPot, sPot, gPot, sPotN, List.getElem?_cons_zero, List.getElem?_cons_succ, List.set_cons_zero, List.set_cons_succ, Option.bind_some, Option.map_some, Option.bind_none, Option.map_none, List.all_cons, List.all_nil, Sl.dp, Bool.and_true, Bool.true_and, and_self, and_true, true_and, if_true, if_false, ite_true, ite_false, Bool.false_eq_true, reduceCtorEq, reduceIte, Bool.not_true, Bool.not_false, gEq_str, gEq_int, gAdd_int, le_line, Nat.reduceLeDiff, Nat.reduceEqDiff, ne_eq, not_false_eq_true, cast_2, cast_3, cast_4, cast_5, cast_1, cast_0, eq_self, decide_true, decide_false, a1, a2, a3, h.r, sPar, notP, gIsN_none, told_repr]
theorem noPot_2 {s0 s1 s2 s3 s4 s5 s6 s7 s8 : Sl} (h0 : noP s0 = true) (h1 : noP s1 = true) (h3 : noP s3 = true) (h4 : noP s4 = true) (h5 : noP s5 = true) (h6 : noP s6 = true) (h7 : noP s7 = true) (h8 : noP s8 = true) : noPot [s0, s1, s2, s3, s4, s5, s6, s7, s8, .e] 2 = true := by
  have mt : ∀ s : Sl, noP s = true → (match some s with
    | some .p => false
    | _ => true) = true := fun s h => by cases s <;> first | rfl | cases h
  unfold noPot
  simp only [List.length_cons, List.length_nil, Nat.reduceAdd, List.all_eq_true, List.mem_range, Bool.or_eq_true, decide_eq_true_eq]
  intro j hj
  rcases (by omega : j = 0 ∨ j = 1 ∨ j = 2 ∨ j = 3 ∨ j = 4 ∨ j = 5 ∨ j = 6 ∨ j = 7 ∨ j = 8 ∨ j = 9) with rfl | rfl | rfl | rfl | rfl | rfl | rfl | rfl | rfl | rfl
  · exact .inr (mt s0 h0)
  · exact .inr (mt s1 h1)
  · exact .inl rfl
  · exact .inr (mt s3 h3)
  · exact .inr (mt s4 h4)
  · exact .inr (mt s5 h5)
  · exact .inr (mt s6 h6)
  · exact .inr (mt s7 h7)
  · exact .inr (mt s8 h8)
  · exact .inr rfl
abbrev three3 : List PyData := [.int 3, .int 6, .int 16]
abbrev three5 : List PyData := [.int 2, .int 5, .int 24]
theorem three3_ok {x : PyData} (h : x ∈ three3) : ∃ k : Int, x = .int k ∧ 1 ≤ k ∧ k ≤ 16 := by
  simp only [List.mem_cons, List.not_mem_nil, or_false] at h
  rcases h with rfl | rfl | rfl
  · exact ⟨3, rfl, by omega, by omega⟩
  · exact ⟨6, rfl, by omega, by omega⟩
  · exact ⟨16, rfl, by omega, by omega⟩
theorem three5_ok {x : PyData} (h : x ∈ three5) : ∃ k : Int, x = .int k ∧ 1 ≤ k ∧ k ≤ 24 := by
  simp only [List.mem_cons, List.not_mem_nil, or_false] at h
  rcases h with rfl | rfl | rfl
  · exact ⟨2, rfl, by omega, by omega⟩
  · exact ⟨5, rfl, by omega, by omega⟩
  · exact ⟨24, rfl, by omega, by omega⟩
section
variable {p : Int} {ts fs ls : List PyData}
abbrev sh5 (p : Int) (ts fs ls : List PyData) : List PyData := [.str "sheet", .int p, .tuple ts, .tuple fs, .tuple ls]
abbrev baseL (p : Int) (ts fs ls : List PyData) : List PyData := [shD p ts fs ls, .list (sh5 p ts fs ls), .tuple (List.take 4 (sh5 p ts fs ls)), .tuple (sh5 p ts fs ls ++ [.int 0]), .tuple ([.str "Sheet"] ++ List.drop 1 (sh5 p ts fs ls)), .none, .int 0, .str "sheet", .tuple [], .list [], .dict [], .tuple [shD p ts fs ls]]
theorem base_ok (g : GS p ts fs ls) : ∀ v ∈ baseL p ts fs ls, VG v := fun v hv => by
  have m5 := g.mem
  have go : ∀ {u : PyData}, Bt 40 B20 20 600000 20 u → VG u := fun h => VG.of h (by omega) b20 (by omega) (by omega) (by omega)
  have z0 : Bt 40 B20 20 10032 3 (.int 0) := btB_ok (by decide +kernel)
  have zS : Bt 40 B20 20 10032 3 (.str "Sheet") := btB_ok (by decide +kernel)
  have hm := m5
  simp only [List.mem_cons, List.not_mem_nil, or_false] at hv
  rcases hv with rfl | rfl | rfl | rfl | rfl | rfl | rfl | rfl | rfl | rfl | rfl | rfl
  · exact go (g.bt.mono (by omega) (Int.le_refl _) (by omega) (by omega) (by omega))
  · exact go (Bt.lst hm (by simp) (by simp) (by omega))
  · exact go (Bt.tup (fun y hy => hm y (List.mem_of_mem_take hy)) (by simp) (by simp) (by omega))
  · refine go (Bt.tup (W := 10032) (D := 3) (fun y hy => ?_) (by simp) (by simp) (by omega))
    rcases List.mem_append.mp hy with z | z
    · exact hm y z
    · rw [List.mem_singleton] at z
      rw [z]
      exact z0
  · refine go (Bt.tup (W := 10032) (D := 3) (fun y hy => ?_) (by simp) (by simp) (by omega))
    rcases List.mem_append.mp hy with z | z
    · rw [List.mem_singleton] at z
      rw [z]
      exact zS
    · exact hm y (List.mem_of_mem_drop z)
  · exact go (btB_ok (by decide +kernel))
  · exact go (btB_ok (by decide +kernel))
  · exact go (btB_ok (by decide +kernel))
  · exact go (btB_ok (by decide +kernel))
  · exact go (btB_ok (by decide +kernel))
  · exact go (btB_ok (by decide +kernel))
  · refine go (Bt.tup (W := 50200) (D := 4) (fun y hy => ?_) (by simp) (by simp) (by omega))
    rw [List.mem_singleton] at hy
    rw [hy]
    exact g.bt
theorem bent1 (g : GS p ts fs ls) (π : Pt) : ∃ u π', m__law_bent 8 [.p, .d (shD p ts fs ls)] π = some (u, π') ∧ Bt 41 (B20 + 1) 21 100500 5 u := by
  have h := g.bt
  have e : (10 : Int) ^ 20 = B20 := by decide
  obtain ⟨u, π', e1, hu⟩ := e_bent 8 (shD p ts fs ls) π 40 B20 20 h.v (by have := h.d; omega) (by omega) (by omega) (by rw [e]; omega) (by rw [e]; omega) (by omega) (by omega)
  exact ⟨u, π', e1, hu.mono (Nat.le_refl _) (Int.le_refl _) (Nat.le_refl _) (by have := h.w; omega) (by have := h.d; omega)⟩
theorem bent2 (g : GS p ts fs ls) (π : Pt) : ∃ u1 π1 u π', m__law_bent 8 [.p, .d (shD p ts fs ls)] π = some (u1, π1) ∧ m__law_bent 8 [.p, .d u1] π1 = some (u, π') ∧ Bt 42 (B20 + 2) 22 201100 6 u := by
  obtain ⟨u1, π1, e1, h⟩ := bent1 g π
  have e : (10 : Int) ^ 20 = B20 := by decide
  obtain ⟨u, π', e2, hu⟩ := e_bent 8 u1 π1 41 (B20 + 1) 21 h.v (by have := h.d; omega) (by omega) (by omega) (by rw [e]; omega) (by rw [e]; omega) (by omega) (by omega)
  exact ⟨u1, π1, u, π', e1, e2, hu.mono (Nat.le_refl _) (by omega) (Nat.le_refl _) (by have := h.w; omega) (by have := h.d; omega)⟩
end
end Law10

set_option maxHeartbeats 4000000
namespace Law10
open PySem DL
set_option autoImplicit false
abbrev gBody10 : MS := (sSeq (sSetP 2 (fClN 2 m__law_pot (aD (fV 0) (aD (fV 1) aNil)))) (sSeq (sSet 3 (fCl 3 m__law_sheet (aP 2 (aD (fCl 2 m__law_pick (aP 2 (aD (fL (fLst (fCons (fC (.int 3)) (fCons (fC (.int 6)) (fCons (fC (.int 16)) fNil))))) aNil))) (aD (fCl 2 m__law_pick (aP 2 (aD (fL (fLst (fCons (fC (.int 2)) (fCons (fC (.int 5)) (fCons (fC (.int 24)) fNil))))) aNil))) aNil))))) (sSeq (sSet 4 (fL (fLst (fCons (fV 3) (fCons (fL (fUN gList (fVx 3))) (fCons (fSlA (fVx 3) oNone (oSome (fC (.int 4)))) (fCons (fB gAdd (fVx 3) (fTup (fCons (fC (.int 0)) fNil))) (fCons (fB gAdd (fTup (fCons (fC (.str "Sheet")) fNil)) (fSlA (fVx 3) (oSome (fC (.int 1))) oNone)) (fCons (fC .none) (fCons (fC (.int 0)) (fCons (fC (.str "sheet")) (fCons (fTup fNil) (fCons (fL (fLst fNil)) (fCons fDict0 (fCons (fTup (fCons (fV 3) fNil)) fNil))))))))))))))) (sSeq (sSet 4 (fL (fBN gCatL (fL (fBN gCatL (fVx 4) (fCl 1 m__law_edges (aD (fV 3) aNil)))) (fL (fLc (iR1 (fC (.int 30))) [9] (tName 9) bYes (fCl 2 (m__law_bent 8) (aP 2 (aD (fV 3) aNil)))))))) (sSeq (sSet 4 (fL (fBN gCatL (fVx 4) (fL (fLc (iR1 (fC (.int 6))) [9] (tName 9) bYes (fCl 2 (m__law_bent 8) (aP 2 (aD (fCl 2 (m__law_bent 8) (aP 2 (aD (fV 3) aNil))) aNil)))))))) (sSeq (sIf (fTv (fB (gIsN true) (fCl 1 m__law_flaw (aD (fV 3) aNil)) (fC .none))) (sRet (fC (.bool false))) sNil) (sFor (iL (fV 4)) (tName 5) (sSeq (sPar 6 7 (aD (fCl 1 m__law_flaw (aD (fV 5) aNil)) (aD (fU gRepr (fVx 5)) aNil))) (sSeq (sSet 8 (fL (fLst (fCons (fCl 1 m_sheet_flaw (aD (fV 5) aNil)) (fCons (fCl 1 m_sheet_flaw (aD (fV 5) aNil)) (fCons (fCl 1 m_is_sheet (aD (fV 5) aNil)) (fCons (fCl 1 m_is_sheet (aD (fV 5) aNil)) fNil))))))) (sIf (fOrT (fTv (fB (gEq true) (fU gRepr (fVx 8)) (fU gRepr (fL (fLst (fCons (fV 6) (fCons (fV 6) (fCons (fB (gIsN false) (fVx 6) (fC .none)) (fCons (fB (gIsN false) (fVx 6) (fC .none)) fNil))))))))) (fTv (fB (gEq true) (fU gRepr (fVx 5)) (fVx 7)))) (sRet (fC (.bool false))) sNil))))))))))
theorem e_turn (ns : List Int) (j : Nat) (hj : j < 3) (s1 s2 s3 s4 s5 s6 s7 s8 : Sl) (h1 : noP s1 = true) (h3 : noP s3 = true) (h4 : noP s4 = true) (h5 : noP s5 = true) (h6 : noP s6 = true) (h7 : noP s7 = true) (h8 : noP s8 = true) (π : Pt) :
    ∃ t1 t2 t3 t4 t5 t6 t7 t8 π', gBody10 [.d (.list (ns.map PyData.int)), .d (.int (0 + (j : Int))), s2, s3, s4, s5, s6, s7, s8, .e] π = some (.nx [.d (.list (ns.map PyData.int)), t1, t2, t3, t4, t5, t6, t7, t8, .e], π') ∧ noP t1 = true ∧ noP t3 = true ∧ noP t4 = true ∧ noP t5 = true ∧ noP t6 = true ∧ noP t7 = true ∧ noP t8 = true := by
  obtain ⟨a, b, e1⟩ := e_pot ns (0 + (j : Int)) (by omega) (by omega) π
  have hno := noPot_2 (s0 := .d (.list (ns.map PyData.int))) (s1 := .d (.int (0 + (j : Int)))) (s2 := s2) rfl rfl h3 h4 h5 h6 h7 h8
  obtain ⟨x1, π1, e2, m1⟩ := e_pick (a, b) three3 (by simp) (by simp)
  obtain ⟨k1, rfl, p1, p2⟩ := three3_ok m1
  obtain ⟨x2, π2, e3, m2⟩ := e_pick π1 three5 (by simp) (by simp)
  obtain ⟨k2, rfl, p3, p4⟩ := three5_ok m2
  obtain ⟨p, ts, fs, ls, π3, e4, g⟩ := e_sheet π2 k1 k2 p1 p2 p3 p4
  have c1 : cutD (sh5 p ts fs ls) none (some 4) = List.take 4 (sh5 p ts fs ls) := cutD_to _ 4
  have c2 : cutD (sh5 p ts fs ls) (some 1) none = List.drop 1 (sh5 p ts fs ls) := cutD_from _ 1
  have a1 := gAdd_tup (xs := sh5 p ts fs ls) (ys := [.int 0]) (by simp)
  have a2 := gAdd_tup (xs := [.str "Sheet"]) (ys := List.drop 1 (sh5 p ts fs ls)) (by simp)
  obtain ⟨es, π4, e5, el, ev⟩ := e_edges g π3
  have cat1 : (baseL p ts fs ls).length + es.length ≤ sizeLine := by rw [sizeLine_eq]; simp only [List.length_cons, List.length_nil]; omega
  obtain ⟨r1, r2⟩ := rng (n := 30) (by omega) (by omega)
  obtain ⟨r3, r4⟩ := rng (n := 6) (by omega) (by omega)
  obtain ⟨bs, π5, e6, bl, bv⟩ := fLc_ex (own := [9]) (t := tName 9) (b := bYes) (f := fCl 2 (m__law_bent 8) (aP 2 (aD (fV 3) aNil)))
    (ρ := [.d (.list (ns.map PyData.int)), .d (.int (0 + (j : Int))), .p, .d (shD p ts fs ls), .d (.list (baseL p ts fs ls)), s5, s6, s7, s8, .e]) (it := iR1 (fC (.int 30))) (ds := upTo 0 (30 : Int).toNat) (π := π4) (π1 := π4) VG (by simp only [mOf, mOfZ, mOfR, asRt, entry, List.length_cons, List.length_nil, List.replicate, List.cons_append, List.nil_append, Nat.reduceAdd, Nat.reduceSub, fV, fVx, fC, fB, fBN, fU, fUN, fL, fIsi, fAndV, fOrV, fNotV, fTv, asB, asL, asT, fNotT, fAndT, fOrT, fIf, fIfN, fCh, fCl, fClN, aNil, aD, aN, aP, fNil, fCons, fTup, fLst, sNil, sSeq, sSet, sSetM, sRet, sRetN, sIf, sBrk, sCnt, sDrop, sFor, rSeq, sFrz, iL, iT, iS, iE, iZ, iR1, iR2, oNone, oSome, fSlA, fSlL, fPot, sPot, gPot, sPotN, List.getElem?_cons_zero, List.getElem?_cons_succ, List.set_cons_zero, List.set_cons_succ, Option.bind_some, Option.map_some, Option.bind_none, Option.map_none, List.all_cons, List.all_nil, Sl.dp, Bool.and_true, Bool.true_and, and_self, and_true, true_and, if_true, if_false, ite_true, ite_false, Bool.false_eq_true, reduceCtorEq, reduceIte, Bool.not_true, Bool.not_false, gEq_str, gEq_int, gAdd_int, le_line, Nat.reduceLeDiff, Nat.reduceEqDiff, ne_eq, not_false_eq_true, cast_2, cast_3, cast_4, cast_5, cast_1, cast_0, eq_self, decide_true, decide_false, r1, r2]) (len_line (by rw [upTo_length]; decide)) (by
      intro x hx π
      obtain ⟨u, π', e, hu⟩ := bent1 g π
      refine ⟨_, π, u, π', rfl, rfl, by simp only [mOf, mOfZ, mOfR, asRt, entry, List.length_cons, List.length_nil, List.replicate, List.cons_append, List.nil_append, Nat.reduceAdd, Nat.reduceSub, fV, fVx, fC, fB, fBN, fU, fUN, fL, fIsi, fAndV, fOrV, fNotV, fTv, asB, asL, asT, fNotT, fAndT, fOrT, fIf, fIfN, fCh, fCl, fClN, aNil, aD, aN, aP, fNil, fCons, fTup, fLst, sNil, sSeq, sSet, sSetM, sRet, sRetN, sIf, sBrk, sCnt, sDrop, sFor, rSeq, sFrz, iL, iT, iS, iE, iZ, iR1, iR2, oNone, oSome, fSlA, fSlL, fPot, sPot, gPot, sPotN, List.getElem?_cons_zero, List.getElem?_cons_succ, List.set_cons_zero, List.set_cons_succ, Option.bind_some, Option.map_some, Option.bind_none, Option.map_none, List.all_cons, List.all_nil, Sl.dp, Bool.and_true, Bool.true_and, and_self, and_true, true_and, if_true, if_false, ite_true, ite_false, Bool.false_eq_true, reduceCtorEq, reduceIte, Bool.not_true, Bool.not_false, gEq_str, gEq_int, gAdd_int, le_line, Nat.reduceLeDiff, Nat.reduceEqDiff, ne_eq, not_false_eq_true, cast_2, cast_3, cast_4, cast_5, cast_1, cast_0, eq_self, decide_true, decide_false, wipeE, e], VG.of hu (by omega) (by decide) (by omega) (by omega) (by omega)⟩)
  rw [upTo_length] at bl
  have cat2 : (baseL p ts fs ls ++ es).length + bs.length ≤ sizeLine := by
    rw [sizeLine_eq, bl, List.length_append]
    simp only [List.length_cons, List.length_nil]
    have : (30 : Int).toNat = 30 := rfl
    omega
  obtain ⟨cs, π6, e7, cl, cv⟩ := fLc_ex (own := [9]) (t := tName 9) (b := bYes) (f := fCl 2 (m__law_bent 8) (aP 2 (aD (fCl 2 (m__law_bent 8) (aP 2 (aD (fV 3) aNil))) aNil)))
    (ρ := [.d (.list (ns.map PyData.int)), .d (.int (0 + (j : Int))), .p, .d (shD p ts fs ls), .d (.list ((baseL p ts fs ls ++ es) ++ bs)), s5, s6, s7, s8, .e]) (it := iR1 (fC (.int 6))) (ds := upTo 0 (6 : Int).toNat) (π := π5) (π1 := π5) VG (by simp only [mOf, mOfZ, mOfR, asRt, entry, List.length_cons, List.length_nil, List.replicate, List.cons_append, List.nil_append, Nat.reduceAdd, Nat.reduceSub, fV, fVx, fC, fB, fBN, fU, fUN, fL, fIsi, fAndV, fOrV, fNotV, fTv, asB, asL, asT, fNotT, fAndT, fOrT, fIf, fIfN, fCh, fCl, fClN, aNil, aD, aN, aP, fNil, fCons, fTup, fLst, sNil, sSeq, sSet, sSetM, sRet, sRetN, sIf, sBrk, sCnt, sDrop, sFor, rSeq, sFrz, iL, iT, iS, iE, iZ, iR1, iR2, oNone, oSome, fSlA, fSlL, fPot, sPot, gPot, sPotN, List.getElem?_cons_zero, List.getElem?_cons_succ, List.set_cons_zero, List.set_cons_succ, Option.bind_some, Option.map_some, Option.bind_none, Option.map_none, List.all_cons, List.all_nil, Sl.dp, Bool.and_true, Bool.true_and, and_self, and_true, true_and, if_true, if_false, ite_true, ite_false, Bool.false_eq_true, reduceCtorEq, reduceIte, Bool.not_true, Bool.not_false, gEq_str, gEq_int, gAdd_int, le_line, Nat.reduceLeDiff, Nat.reduceEqDiff, ne_eq, not_false_eq_true, cast_2, cast_3, cast_4, cast_5, cast_1, cast_0, eq_self, decide_true, decide_false, r3, r4]) (len_line (by rw [upTo_length]; decide)) (by
      intro x hx π
      obtain ⟨u1, π1, u, π', ea, eb, hu⟩ := bent2 g π
      refine ⟨_, π, u, π', rfl, rfl, by simp only [mOf, mOfZ, mOfR, asRt, entry, List.length_cons, List.length_nil, List.replicate, List.cons_append, List.nil_append, Nat.reduceAdd, Nat.reduceSub, fV, fVx, fC, fB, fBN, fU, fUN, fL, fIsi, fAndV, fOrV, fNotV, fTv, asB, asL, asT, fNotT, fAndT, fOrT, fIf, fIfN, fCh, fCl, fClN, aNil, aD, aN, aP, fNil, fCons, fTup, fLst, sNil, sSeq, sSet, sSetM, sRet, sRetN, sIf, sBrk, sCnt, sDrop, sFor, rSeq, sFrz, iL, iT, iS, iE, iZ, iR1, iR2, oNone, oSome, fSlA, fSlL, fPot, sPot, gPot, sPotN, List.getElem?_cons_zero, List.getElem?_cons_succ, List.set_cons_zero, List.set_cons_succ, Option.bind_some, Option.map_some, Option.bind_none, Option.map_none, List.all_cons, List.all_nil, Sl.dp, Bool.and_true, Bool.true_and, and_self, and_true, true_and, if_true, if_false, ite_true, ite_false, Bool.false_eq_true, reduceCtorEq, reduceIte, Bool.not_true, Bool.not_false, gEq_str, gEq_int, gAdd_int, le_line, Nat.reduceLeDiff, Nat.reduceEqDiff, ne_eq, not_false_eq_true, cast_2, cast_3, cast_4, cast_5, cast_1, cast_0, eq_self, decide_true, decide_false, wipeE, ea, eb], VG.of hu (by omega) (by decide) (by omega) (by omega) (by omega)⟩)
  rw [upTo_length] at cl
  have cat3 : ((baseL p ts fs ls ++ es) ++ bs).length + cs.length ≤ sizeLine := by
    rw [sizeLine_eq, cl, List.length_append, List.length_append, bl]
    simp only [List.length_cons, List.length_nil]
    have : (30 : Int).toNat = 30 := rfl
    have : (6 : Int).toNat = 6 := rfl
    omega
  have fl := e_law_flaw (shD p ts fs ls) π6 (VG.of (g.bt.mono (Nat.le_refl _) (Int.le_refl _) (Nat.le_refl _) (Nat.le_refl _) (Nat.le_refl _)) (by omega) b20 (by omega) (by omega) (by omega)).s
  rw [g.flaw] at fl
  have vals : ∀ v ∈ ((baseL p ts fs ls ++ es) ++ bs) ++ cs, VG v := fun v hv => by
    rcases List.mem_append.mp hv with hv | hv
    · rcases List.mem_append.mp hv with hv | hv
      · rcases List.mem_append.mp hv with hv | hv
        · exact base_ok g v hv
        · exact ev v hv
      · exact bv v hv
    · exact cv v hv
  have loop := forM_inv (π := π6) (t := tName 5) (g := gIn10)
    (fun i ρ => ∃ t5 t6 t7 t8 : Sl, ρ = [.d (.list (ns.map PyData.int)), .d (.int (0 + (j : Int))), .p, .d (shD p ts fs ls), .d (.list (((baseL p ts fs ls ++ es) ++ bs) ++ cs)), t5, t6, t7, t8, .e] ∧ noP t5 = true ∧ noP t6 = true ∧ noP t7 = true ∧ noP t8 = true)
    (((baseL p ts fs ls ++ es) ++ bs) ++ cs) 0 _ ⟨s5, s6, s7, s8, rfl, h5, h6, h7, h8⟩ (by
      rintro i v hv ρ π ⟨t5, t6, t7, t8, rfl, q5, q6, q7, q8⟩
      have hg := vals v (List.mem_of_getElem? hv)
      exact ⟨_, _, π, rfl, e_body v hg _ _ _ _ _ _ _ _, _, _, _, _, rfl, rfl, rfl, rfl, rfl⟩)
  obtain ⟨ρ', π7, e8, t5, t6, t7, t8, rfl, q5, q6, q7, q8⟩ := loop
  refine ⟨.d (.int (0 + (j : Int))), .p, .d (shD p ts fs ls), .d (.list (((baseL p ts fs ls ++ es) ++ bs) ++ cs)), t5, t6, t7, t8, π7, ?_, rfl, rfl, rfl, q5, q6, q7, q8⟩
  have lt10 : (2 < 10) = True := eq_true (by decide)
  refine (sSeq_nx (ρ1 := [.d (.list (ns.map PyData.int)), .d (.int (0 + (j : Int))), .p, s3, s4, s5, s6, s7, s8, .e]) (π1 := (a, b)) ?_).trans ?_
  · simp only [mOf, mOfZ, mOfR, asRt, entry, List.length_cons, List.length_nil, List.replicate, List.cons_append, List.nil_append, Nat.reduceAdd, Nat.reduceSub, fV, fVx, fC, fB, fBN, fU, fUN, fL, fIsi, fAndV, fOrV, fNotV, fTv, asB, asL, asT, fNotT, fAndT, fOrT, fIf, fIfN, fCh, fCl, fClN, aNil, aD, aN, aP, fNil, fCons, fTup, fLst, sNil, sSeq, sSet, sSetM, sRet, sRetN, sIf, sBrk, sCnt, sDrop, sFor, rSeq, sFrz, iL, iT, iS, iE, iZ, iR1, iR2, oNone, oSome, fSlA, fSlL, fPot, sPot, gPot, sPotN, List.getElem?_cons_zero, List.getElem?_cons_succ, List.set_cons_zero, List.set_cons_succ, Option.bind_some, Option.map_some, Option.bind_none, Option.map_none, List.all_cons, List.all_nil, Sl.dp, Bool.and_true, Bool.true_and, and_self, and_true, true_and, if_true, if_false, ite_true, ite_false, Bool.false_eq_true, reduceCtorEq, reduceIte, Bool.not_true, Bool.not_false, gEq_str, gEq_int, gAdd_int, le_line, Nat.reduceLeDiff, Nat.reduceEqDiff, ne_eq, not_false_eq_true, cast_2, cast_3, cast_4, cast_5, cast_1, cast_0, eq_self, decide_true, decide_false, e1, sSetP, hno, lt10]
  refine (sSeq_nx (ρ1 := [.d (.list (ns.map PyData.int)), .d (.int (0 + (j : Int))), .p, .d (shD p ts fs ls), s4, s5, s6, s7, s8, .e]) (π1 := π3) ?_).trans ?_
  · simp only [mOf, mOfZ, mOfR, asRt, entry, List.length_cons, List.length_nil, List.replicate, List.cons_append, List.nil_append, Nat.reduceAdd, Nat.reduceSub, fV, fVx, fC, fB, fBN, fU, fUN, fL, fIsi, fAndV, fOrV, fNotV, fTv, asB, asL, asT, fNotT, fAndT, fOrT, fIf, fIfN, fCh, fCl, fClN, aNil, aD, aN, aP, fNil, fCons, fTup, fLst, sNil, sSeq, sSet, sSetM, sRet, sRetN, sIf, sBrk, sCnt, sDrop, sFor, rSeq, sFrz, iL, iT, iS, iE, iZ, iR1, iR2, oNone, oSome, fSlA, fSlL, fPot, sPot, gPot, sPotN, List.getElem?_cons_zero, List.getElem?_cons_succ, List.set_cons_zero, List.set_cons_succ, Option.bind_some, Option.map_some, Option.bind_none, Option.map_none, List.all_cons, List.all_nil, Sl.dp, Bool.and_true, Bool.true_and, and_self, and_true, true_and, if_true, if_false, ite_true, ite_false, Bool.false_eq_true, reduceCtorEq, reduceIte, Bool.not_true, Bool.not_false, gEq_str, gEq_int, gAdd_int, le_line, Nat.reduceLeDiff, Nat.reduceEqDiff, ne_eq, not_false_eq_true, cast_2, cast_3, cast_4, cast_5, cast_1, cast_0, eq_self, decide_true, decide_false, e2, e3, e4]
  refine (sSeq_nx (ρ1 := [.d (.list (ns.map PyData.int)), .d (.int (0 + (j : Int))), .p, .d (shD p ts fs ls), .d (.list (baseL p ts fs ls)), s5, s6, s7, s8, .e]) (π1 := π3) ?_).trans ?_
  · simp only [mOf, mOfZ, mOfR, asRt, entry, List.length_cons, List.length_nil, List.replicate, List.cons_append, List.nil_append, Nat.reduceAdd, Nat.reduceSub, fV, fVx, fC, fB, fBN, fU, fUN, fL, fIsi, fAndV, fOrV, fNotV, fTv, asB, asL, asT, fNotT, fAndT, fOrT, fIf, fIfN, fCh, fCl, fClN, aNil, aD, aN, aP, fNil, fCons, fTup, fLst, sNil, sSeq, sSet, sSetM, sRet, sRetN, sIf, sBrk, sCnt, sDrop, sFor, rSeq, sFrz, iL, iT, iS, iE, iZ, iR1, iR2, oNone, oSome, fSlA, fSlL, fPot, sPot, gPot, sPotN, List.getElem?_cons_zero, List.getElem?_cons_succ, List.set_cons_zero, List.set_cons_succ, Option.bind_some, Option.map_some, Option.bind_none, Option.map_none, List.all_cons, List.all_nil, Sl.dp, Bool.and_true, Bool.true_and, and_self, and_true, true_and, if_true, if_false, ite_true, ite_false, Bool.false_eq_true, reduceCtorEq, reduceIte, Bool.not_true, Bool.not_false, gEq_str, gEq_int, gAdd_int, le_line, Nat.reduceLeDiff, Nat.reduceEqDiff, ne_eq, not_false_eq_true, cast_2, cast_3, cast_4, cast_5, cast_1, cast_0, eq_self, decide_true, decide_false, gList, c1, c2, a1, a2, fDict0, baseL, sh5, shD]
  generalize baseL p ts fs ls = BL at *
  refine (sSeq_nx (ρ1 := [.d (.list (ns.map PyData.int)), .d (.int (0 + (j : Int))), .p, .d (shD p ts fs ls), .d (.list ((BL ++ es) ++ bs)), s5, s6, s7, s8, .e]) (π1 := π5) ?_).trans ?_
  · simp only [mOf, mOfZ, mOfR, asRt, entry, List.length_cons, List.length_nil, List.replicate, List.cons_append, List.nil_append, Nat.reduceAdd, Nat.reduceSub, fV, fVx, fC, fB, fBN, fU, fUN, fL, fIsi, fAndV, fOrV, fNotV, fTv, asB, asL, asT, fNotT, fAndT, fOrT, fIf, fIfN, fCh, fCl, fClN, aNil, aD, aN, aP, fNil, fCons, fTup, fLst, sNil, sSeq, sSet, sSetM, sRet, sRetN, sIf, sBrk, sCnt, sDrop, sFor, rSeq, sFrz, iL, iT, iS, iE, iZ, iR1, iR2, oNone, oSome, fSlA, fSlL, fPot, sPot, gPot, sPotN, List.getElem?_cons_zero, List.getElem?_cons_succ, List.set_cons_zero, List.set_cons_succ, Option.bind_some, Option.map_some, Option.bind_none, Option.map_none, List.all_cons, List.all_nil, Sl.dp, Bool.and_true, Bool.true_and, and_self, and_true, true_and, if_true, if_false, ite_true, ite_false, Bool.false_eq_true, reduceCtorEq, reduceIte, Bool.not_true, Bool.not_false, gEq_str, gEq_int, gAdd_int, le_line, Nat.reduceLeDiff, Nat.reduceEqDiff, ne_eq, not_false_eq_true, cast_2, cast_3, cast_4, cast_5, cast_1, cast_0, eq_self, decide_true, decide_false, e5, gCatL, cat1, e6, cat2]
  refine (sSeq_nx (ρ1 := [.d (.list (ns.map PyData.int)), .d (.int (0 + (j : Int))), .p, .d (shD p ts fs ls), .d (.list (((BL ++ es) ++ bs) ++ cs)), s5, s6, s7, s8, .e]) (π1 := π6) ?_).trans ?_
  · simp only [mOf, mOfZ, mOfR, asRt, entry, List.length_cons, List.length_nil, List.replicate, List.cons_append, List.nil_append, Nat.reduceAdd, Nat.reduceSub, fV, fVx, fC, fB, fBN, fU, fUN, fL, fIsi, fAndV, fOrV, fNotV, fTv, asB, asL, asT, fNotT, fAndT, fOrT, fIf, fIfN, fCh, fCl, fClN, aNil, aD, aN, aP, fNil, fCons, fTup, fLst, sNil, sSeq, sSet, sSetM, sRet, sRetN, sIf, sBrk, sCnt, sDrop, sFor, rSeq, sFrz, iL, iT, iS, iE, iZ, iR1, iR2, oNone, oSome, fSlA, fSlL, fPot, sPot, gPot, sPotN, List.getElem?_cons_zero, List.getElem?_cons_succ, List.set_cons_zero, List.set_cons_succ, Option.bind_some, Option.map_some, Option.bind_none, Option.map_none, List.all_cons, List.all_nil, Sl.dp, Bool.and_true, Bool.true_and, and_self, and_true, true_and, if_true, if_false, ite_true, ite_false, Bool.false_eq_true, reduceCtorEq, reduceIte, Bool.not_true, Bool.not_false, gEq_str, gEq_int, gAdd_int, le_line, Nat.reduceLeDiff, Nat.reduceEqDiff, ne_eq, not_false_eq_true, cast_2, cast_3, cast_4, cast_5, cast_1, cast_0, eq_self, decide_true, decide_false, gCatL, e7, cat3]
  refine (sSeq_nx (ρ1 := [.d (.list (ns.map PyData.int)), .d (.int (0 + (j : Int))), .p, .d (shD p ts fs ls), .d (.list (((BL ++ es) ++ bs) ++ cs)), s5, s6, s7, s8, .e]) (π1 := π6) ?_).trans ?_
  · simp only [mOf, mOfZ, mOfR, asRt, entry, List.length_cons, List.length_nil, List.replicate, List.cons_append, List.nil_append, Nat.reduceAdd, Nat.reduceSub, fV, fVx, fC, fB, fBN, fU, fUN, fL, fIsi, fAndV, fOrV, fNotV, fTv, asB, asL, asT, fNotT, fAndT, fOrT, fIf, fIfN, fCh, fCl, fClN, aNil, aD, aN, aP, fNil, fCons, fTup, fLst, sNil, sSeq, sSet, sSetM, sRet, sRetN, sIf, sBrk, sCnt, sDrop, sFor, rSeq, sFrz, iL, iT, iS, iE, iZ, iR1, iR2, oNone, oSome, fSlA, fSlL, fPot, sPot, gPot, sPotN, List.getElem?_cons_zero, List.getElem?_cons_succ, List.set_cons_zero, List.set_cons_succ, Option.bind_some, Option.map_some, Option.bind_none, Option.map_none, List.all_cons, List.all_nil, Sl.dp, Bool.and_true, Bool.true_and, and_self, and_true, true_and, if_true, if_false, ite_true, ite_false, Bool.false_eq_true, reduceCtorEq, reduceIte, Bool.not_true, Bool.not_false, gEq_str, gEq_int, gAdd_int, le_line, Nat.reduceLeDiff, Nat.reduceEqDiff, ne_eq, not_false_eq_true, cast_2, cast_3, cast_4, cast_5, cast_1, cast_0, eq_self, decide_true, decide_false, fl, gIsN_none, isNone]
  simp only [mOf, mOfZ, mOfR, asRt, entry, List.length_cons, List.length_nil, List.replicate, List.cons_append, List.nil_append, Nat.reduceAdd, Nat.reduceSub, fV, fVx, fC, fB, fBN, fU, fUN, fL, fIsi, fAndV, fOrV, fNotV, fTv, asB, asL, asT, fNotT, fAndT, fOrT, fIf, fIfN, fCh, fCl, fClN, aNil, aD, aN, aP, fNil, fCons, fTup, fLst, sNil, sSeq, sSet, sSetM, sRet, sRetN, sIf, sBrk, sCnt, sDrop, sFor, rSeq, sFrz, iL, iT, iS, iE, iZ, iR1, iR2, oNone, oSome, fSlA, fSlL, fPot, sPot, gPot, sPotN, List.getElem?_cons_zero, List.getElem?_cons_succ, List.set_cons_zero, List.set_cons_succ, Option.bind_some, Option.map_some, Option.bind_none, Option.map_none, List.all_cons, List.all_nil, Sl.dp, Bool.and_true, Bool.true_and, and_self, and_true, true_and, if_true, if_false, ite_true, ite_false, Bool.false_eq_true, reduceCtorEq, reduceIte, Bool.not_true, Bool.not_false, gEq_str, gEq_int, gAdd_int, le_line, Nat.reduceLeDiff, Nat.reduceEqDiff, ne_eq, not_false_eq_true, cast_2, cast_3, cast_4, cast_5, cast_1, cast_0, eq_self, decide_true, decide_false, e8]
theorem math (ns : List Int) (h : ns.length ≤ 63) : ∃ π', m_law [.d (.list (ns.map PyData.int))] (0, 0) = some (.bool true, π') := by
  obtain ⟨r1, r2⟩ := rng (n := 3) (by omega) (by omega)
  have loop := forM_inv (π := (0, 0)) (t := tName 1) (g := gBody10)
    (fun i ρ => ∃ s1 s2 s3 s4 s5 s6 s7 s8 : Sl, ρ = [.d (.list (ns.map PyData.int)), s1, s2, s3, s4, s5, s6, s7, s8, .e] ∧ noP s1 = true ∧ noP s3 = true ∧ noP s4 = true ∧ noP s5 = true ∧ noP s6 = true ∧ noP s7 = true ∧ noP s8 = true)
    (upTo 0 (3 : Int).toNat) 0 [.d (.list (ns.map PyData.int)), .e, .e, .e, .e, .e, .e, .e, .e, .e] ⟨_, _, _, _, _, _, _, _, rfl, rfl, rfl, rfl, rfl, rfl, rfl, rfl⟩ (by
      rintro j x hx ρ π ⟨s1, s2, s3, s4, s5, s6, s7, s8, rfl, h1, h3, h4, h5, h6, h7, h8⟩
      obtain ⟨rfl, hj⟩ := upTo_get hx
      obtain ⟨t1, t2, t3, t4, t5, t6, t7, t8, π', e, q1, q3, q4, q5, q6, q7, q8⟩ := e_turn ns j hj s1 s2 s3 s4 s5 s6 s7 s8 h1 h3 h4 h5 h6 h7 h8 π
      exact ⟨_, _, π', rfl, e, _, _, _, _, _, _, _, _, rfl, q1, q3, q4, q5, q6, q7, q8⟩)
  obtain ⟨ρ', π', e, s1, s2, s3, s4, s5, s6, s7, s8, rfl, _⟩ := loop
  refine ⟨(0, 0), ?_⟩
  unfold m_law g_law
  simp only [mOf, mOfZ, mOfR, asRt, entry, List.length_cons, List.length_nil, List.replicate, List.cons_append, List.nil_append, Nat.reduceAdd, Nat.reduceSub, fV, fVx, fC, fB, fBN, fU, fUN, fL, fIsi, fAndV, fOrV, fNotV, fTv, asB, asL, asT, fNotT, fAndT, fOrT, fIf, fIfN, fCh, fCl, fClN, aNil, aD, aN, aP, fNil, fCons, fTup, fLst, sNil, sSeq, sSet, sSetM, sRet, sRetN, sIf, sBrk, sCnt, sDrop, sFor, rSeq, sFrz, iL, iT, iS, iE, iZ, iR1, iR2, oNone, oSome, fSlA, fSlL, fPot, sPot, gPot, sPotN, List.getElem?_cons_zero, List.getElem?_cons_succ, List.set_cons_zero, List.set_cons_succ, Option.bind_some, Option.map_some, Option.bind_none, Option.map_none, List.all_cons, List.all_nil, Sl.dp, Bool.and_true, Bool.true_and, and_self, and_true, true_and, if_true, if_false, ite_true, ite_false, Bool.false_eq_true, reduceCtorEq, reduceIte, Bool.not_true, Bool.not_false, gEq_str, gEq_int, gAdd_int, le_line, Nat.reduceLeDiff, Nat.reduceEqDiff, ne_eq, not_false_eq_true, cast_2, cast_3, cast_4, cast_5, cast_1, cast_0, eq_self, decide_true, decide_false, noP, r1, r2, e]
end Law10

set_option maxHeartbeats 0
namespace Law10
open PySem PySem.Spec PyProof.Rows L2 DL
set_option autoImplicit false
def ob (s : PySem.W.SharedT) : AlS := obsSG 35 fa fn (HandSHeadRun.getT s)
theorem ob_eq (s : PySem.W.SharedT) : ob s = (hookS 35 fa fn).obs s.abs := obsSG_eq (HandSHeadRun.getT_eq s)
abbrev loose : List Str := ["is_integer", "is_within", "is_tuple", "are_rising", "MOST_PLACES", "MOST_TASKS", "MOST_TOKENS", "MOST_SIGNS", "LETTERS", "SIGNS", "is_name", "are_places", "is_standing_of", "is_task_of", "is_sheet", "flaw_of", "sheet_flaw", "_law_pot", "_law_draw", "_law_pick", "_law_lot", "_law_sheet", "_law_behind", "_law_number", "_law_is_name", "_law_are_places", "_law_is_task", "_law_is_standing", "_law_flaw", "_law_bent", "_law_edges", "__name__"]
theorem run (w : World) : HandSHeadRun.RunEq (PySem.W.OpenLaw.row PySem.Challenge.rw_caseworks_k10_any_value_as_sheet) (PySem.W.view (PySem.W.OpenLaw.row PySem.Challenge.rw_caseworks_k10_any_value_as_sheet).prog [35]) (hookS 35 fa fn) ob 1200 loose w := by
  intro os
  kernel_rfl
end Law10
open PySem PySem.W PySem.Calls PyProof.Rows
theorem PySem.Challenge.cw_caseworks_k10_any_value_as_sheet_holds : PySem.Challenge.rw_caseworks_k10_any_value_as_sheet.Holds := by
  w_on; o_law
  refine HandSHeadRun.head_any (r := OpenLaw.row PySem.Challenge.rw_caseworks_k10_any_value_as_sheet) (q := view (OpenLaw.row PySem.Challenge.rw_caseworks_k10_any_value_as_sheet).prog [35]) (H := DL.hookS 35 Law10.fa Law10.fn) (ob := Law10.ob) (M := 1200) (loose := Law10.loose) (d := HandSHeadRun.topDef (OpenLaw.row PySem.Challenge.rw_caseworks_k10_any_value_as_sheet).prog 35) (kwd := []) Law10.ob_eq
    (by kernel_rfl) (fun s => by kernel_rfl) Law10.run (by kernel_rfl) (by kernel_rfl) (by kernel_rfl) (by rfl) (by first | assumption | decide +kernel) (by decide +kernel) ⟨rfl, rfl, rfl, rfl, rfl, by decide +kernel⟩ ?hw ?hc
  case hw => w_witness2
  case hc =>
    refine DL.walk_ofS (l := PySem.Challenge.rw_caseworks_k10_any_value_as_sheet) (n := 63) (k := 12) (x := "script") rfl (by decide) (by kernel_rfl) ⟨rfl, by decide, by decide⟩ ?F
    intro w mg fA h K KX c G hmg0
    have hmg : mg ("law" : PySem.Str) = some (.ref fA) := by
      have e : (HandSHeadRun.topDef (OpenLaw.row PySem.Challenge.rw_caseworks_k10_any_value_as_sheet).prog 35).name = ("law" : PySem.Str) := by kernel_rfl
      rw [← e]
      exact hmg0
    have GG := Law10.Gs.of KX G c
    have e := hmg.symm.trans GG.g_law
    cases e
    obtain ⟨fd, F⟩ := GG.d_law
    have b := L2.FunD.bindsA (ps := ["script"]) F fun _ _ _ _ _ _ us hl => match us, hl with | [_], _ => rfl
    exact ⟨fd, Law10.m_law, fun s u => b s [u] rfl, Law10.math, fun base _ _ => Law10.ok_law GG F⟩

