import PyProof.Rows.All
import HandS.ForMost
import HandS.IsInst
import HandS.SortInts
import HandS.TupAny
import HandS.TupMul
import HandS.Style
import HandS.WideBits
import HandS.Zip
import HandS.RaiseMore
import PyProof.ReprReads
import KE.GoesMore
import HandS.Walk
import HandS.Strs
import HandS.SetFor
import HandS.Conv
import HandS.Defaults
import HandS.Ends
import HandS.Head0
import HandS.Head1
import HandS.Head2
import HandS.HeadEnd
import HandS.HeadHook1
import HandS.HeadHook2
import Wide.All
import OpenK.AllK
import Wide.FinOn
import KE.KStateDown
import PySem.Challenge.RW_caseworks_k11_whole_runs_and_rows
set_option Elab.async false
set_option linter.all false
set_option maxRecDepth 100000
set_option maxHeartbeats 1000000
namespace DL
open PySem PySem.Spec PyProof.Rows L2
set_option autoImplicit false

abbrev St := L2.St
def keyD : Key → PyData
  | .inl i => .int i
  | .inr s => .str s

mutual
/-- the value v stands for the datum d, by the settled part F of the heap alone -/
inductive Rp (K : PySem.W.Frag) (F : Hp) : V → PyData → Prop
  | non : Rp K F .non .none
  | bl (b : Bool) : Rp K F (.bl b) (.bool b)
  | int (i : Int) : Rp K F (.int i) (.int i)
  | str (x : Str) : Rp K F (.str x) (.str x)
  | lst {a : Addr} {xs : List V} {ds : List PyData} : SqL K F a xs → RpA K F xs ds → Rp K F (.ref a) (.list ds)
  | tup {a : Addr} {xs : List V} {ds : List PyData} : SqT K F a xs → RpA K F xs ds → Rp K F (.ref a) (.tuple ds)
  | dct {a : Addr} : F a = some (.dK []) → Rp K F (.ref a) (.dict [])
inductive RpA (K : PySem.W.Frag) (F : Hp) : List V → List PyData → Prop
  | nil : RpA K F [] []
  | cons {v : V} {vs : List V} {d : PyData} {ds : List PyData} : Rp K F v d → RpA K F vs ds → RpA K F (v :: vs) (d :: ds)
end

theorem seqT_mono {K : PySem.W.Frag} {F F' : Hp} {a : Addr} {xs : List V} (e : Same F F') (h : SqT K F a xs) : SqT K F' a xs := by
  rcases h with (h | ⟨o, h⟩) | h
  · exact .inl (.inl (e _ _ h))
  · exact .inl (.inr ⟨o, e _ _ h⟩)
  · exact .inr h

mutual
theorem Rp.mono {K : PySem.W.Frag} {F F' : Hp} (e : Same F F') : ∀ {v : V} {d : PyData}, Rp K F v d → Rp K F' v d
  | _, _, .non => .non
  | _, _, .bl b => .bl b
  | _, _, .int i => .int i
  | _, _, .str x => .str x
  | _, _, .lst h r => .lst (e.seq h) (RpA.mono e r)
  | _, _, .tup h r => .tup (seqT_mono e h) (RpA.mono e r)
  | _, _, .dct h => .dct (e _ _ h)
theorem RpA.mono {K : PySem.W.Frag} {F F' : Hp} (e : Same F F') : ∀ {vs : List V} {ds : List PyData}, RpA K F vs ds → RpA K F' vs ds
  | _, _, .nil => .nil
  | _, _, .cons r t => .cons (Rp.mono e r) (RpA.mono e t)
end

section
variable {K : PySem.W.Frag} {F : Hp}
theorem RpA.length : ∀ {vs : List V} {ds : List PyData}, RpA K F vs ds → vs.length = ds.length
  | _, _, .nil => rfl
  | _, _, .cons _ t => by rw [List.length_cons, List.length_cons, RpA.length t]
theorem RpA.get : ∀ {vs : List V} {ds : List PyData} {i : Nat} {d : PyData}, RpA K F vs ds → ds[i]? = some d → ∃ v, vs[i]? = some v ∧ Rp K F v d
  | _, _, _, _, .nil, e => by simp at e
  | _, _, 0, _, .cons r _, e => by simp at e; subst e; exact ⟨_, rfl, r⟩
  | _, _, i + 1, d, .cons _ t, e => by
    obtain ⟨v, h1, h2⟩ := RpA.get (i := i) (d := d) t (by simpa using e)
    exact ⟨v, by simpa using h1, h2⟩
theorem RpA.getV : ∀ {vs : List V} {ds : List PyData} {i : Nat} {v : V}, RpA K F vs ds → vs[i]? = some v → ∃ d, ds[i]? = some d ∧ Rp K F v d
  | _, _, _, _, .nil, e => by simp at e
  | _, _, 0, _, .cons r _, e => by simp at e; subst e; exact ⟨_, rfl, r⟩
  | _, _, i + 1, d, .cons _ t, e => by
    obtain ⟨v, h1, h2⟩ := RpA.getV (i := i) (v := d) t (by simpa using e)
    exact ⟨v, by simpa using h1, h2⟩
theorem RpA.append : ∀ {vs ws : List V} {ds es : List PyData}, RpA K F vs ds → RpA K F ws es → RpA K F (vs ++ ws) (ds ++ es)
  | _, _, _, _, .nil, s => s
  | _, _, _, _, .cons r t, s => .cons r (RpA.append t s)
theorem RpA.take : ∀ {vs : List V} {ds : List PyData} (n : Nat), RpA K F vs ds → RpA K F (vs.take n) (ds.take n)
  | _, _, 0, _ => .nil
  | _, _, _ + 1, .nil => .nil
  | _, _, n + 1, .cons r t => .cons r (RpA.take n t)
theorem RpA.drop : ∀ {vs : List V} {ds : List PyData} (n : Nat), RpA K F vs ds → RpA K F (vs.drop n) (ds.drop n)
  | _, _, 0, r => r
  | _, _, _ + 1, .nil => .nil
  | _, _, n + 1, .cons _ t => RpA.drop n t
theorem RpA.set {v : V} {d : PyData} (r : Rp K F v d) : ∀ {vs : List V} {ds : List PyData} (i : Nat), RpA K F vs ds → RpA K F (vs.set i v) (ds.set i d)
  | _, _, _, .nil => .nil
  | _, _, 0, .cons _ t => .cons r t
  | _, _, i + 1, .cons q t => .cons q (RpA.set r i t)
theorem RpA.ints : ∀ (ns : List Int), RpA K F (ns.map V.int) (ns.map PyData.int)
  | [] => .nil
  | n :: ns => .cons (.int n) (RpA.ints ns)
theorem RpA.bools : ∀ (ns : List Bool), RpA K F (ns.map V.bl) (ns.map PyData.bool)
  | [] => .nil
  | n :: ns => .cons (.bl n) (RpA.bools ns)
theorem RpA.strs : ∀ (ns : List Str), RpA K F (ns.map V.str) (ns.map PyData.str)
  | [] => .nil
  | n :: ns => .cons (.str n) (RpA.strs ns)
/-- values of ints are those ints -/
theorem Rp.int_inv {v : V} {i : Int} (h : Rp K F v (.int i)) : v = .int i := by cases h; rfl
theorem Rp.bool_inv {v : V} {b : Bool} (h : Rp K F v (.bool b)) : v = .bl b := by cases h; rfl
theorem Rp.str_inv {v : V} {x : Str} (h : Rp K F v (.str x)) : v = .str x := by cases h; rfl
theorem Rp.non_inv {v : V} (h : Rp K F v .none) : v = .non := by cases h; rfl
theorem RpA.int_inv : ∀ {ns : List Int} {vs : List V}, RpA K F vs (ns.map PyData.int) → vs = ns.map V.int
  | [], _, .nil => rfl
  | n :: ns, _, .cons r t => by rw [r.int_inv, RpA.int_inv t]; rfl
theorem RpA.bool_inv : ∀ {ns : List Bool} {vs : List V}, RpA K F vs (ns.map PyData.bool) → vs = ns.map V.bl
  | [], _, .nil => rfl
  | n :: ns, _, .cons r t => by rw [r.bool_inv, RpA.bool_inv t]; rfl
theorem RpA.str_inv : ∀ {ns : List Str} {vs : List V}, RpA K F vs (ns.map PyData.str) → vs = ns.map V.str
  | [], _, .nil => rfl
  | n :: ns, _, .cons r t => by rw [r.str_inv, RpA.str_inv t]; rfl
end

/-! ### the ghost -/
/-- the two numbers in the pot -/
abbrev Pt := Int × Int
/-- what stands at sys.modules: read, never changed, told by nothing -/
def SysAt (o : HO) : Prop := ∃ ob, o = .frz ob (.ext fun _ => True)
/-- F is settled, the pot stands at pa -/
structure Wd (pa : Option Addr) (F H : Hp) (π : Pt) : Prop where
  same : Same F H
  sys : ∃ o, H sysModules = some o ∧ SysAt o
  pot : ∀ a, pa = some a → F a = none ∧ H a = some (.lst [.int π.1, .int π.2])

/-- from (F, H) to (F', H') nothing that stood has changed but the pot; what is newly settled is new -/
structure Post (pa : Option Addr) (F H F' H' : Hp) (π' : Pt) : Prop where
  ff : Same F F'
  wd : Wd pa F' H' π'
  keep : ∀ b o, H b = some o → pa ≠ some b → H' b = some o
  new : ∀ b o, F' b = some o → F b = some o ∨ H b = none

theorem Post.refl {pa : Option Addr} {F H : Hp} {π : Pt} (w : Wd pa F H π) : Post pa F H F H π :=
  ⟨Same.refl F, w, fun _ _ h _ => h, fun _ _ h => .inl h⟩
theorem Post.trans {pa : Option Addr} {F H F1 H1 F2 H2 : Hp} {π π1 π2 : Pt} (w : Wd pa F H π) (a : Post pa F H F1 H1 π1) (b : Post pa F1 H1 F2 H2 π2) : Post pa F H F2 H2 π2 where
  ff := a.ff.trans b.ff
  wd := b.wd
  keep := fun c o h n => b.keep c o (a.keep c o h n) n
  new := fun c o h => by
    rcases b.new c o h with h1 | h1
    · exact a.new c o h1
    · refine .inr ?_
      cases q : H c with
      | none => rfl
      | some u =>
        by_cases n : pa = some c
        · obtain ⟨_, e⟩ := a.wd.pot c n
          rw [h1] at e; cases e
        · rw [a.keep c u q n] at h1; cases h1
/-- an address that is new behind is new ahead -/
theorem Post.fresh {pa : Option Addr} {F H F1 H1 : Hp} {π1 : Pt} (a : Post pa F H F1 H1 π1) {c : Addr} (h : H1 c = none) : H c = none := by
  cases q : H c with
  | none => rfl
  | some u =>
    by_cases n : pa = some c
    · obtain ⟨_, e⟩ := a.wd.pot c n
      rw [h] at e; cases e
    · rw [a.keep c u q n] at h; cases h

theorem Wd.free {pa : Option Addr} {F H : Hp} {π : Pt} (w : Wd pa F H π) {a : Addr} (h : H a = none) : F a = none := w.same.free h
theorem Wd.pa_ne {pa : Option Addr} {F H : Hp} {π : Pt} (w : Wd pa F H π) {a : Addr} (h : H a = none) : pa ≠ some a := fun e => by
  obtain ⟨_, q⟩ := w.pot a e
  rw [h] at q; cases q
theorem Wd.sys_ne {pa : Option Addr} {F H : Hp} {π : Pt} (w : Wd pa F H π) {a : Addr} {o : HO} (h : H a = some o) (n : ¬ SysAt o) : a ≠ sysModules := fun e => by
  obtain ⟨u, q, r⟩ := w.sys
  rw [← e, h] at q
  cases q
  exact n r
theorem Wd.pa_sys {pa : Option Addr} {F H : Hp} {π : Pt} (w : Wd pa F H π) : pa ≠ some sysModules := fun e => by
  obtain ⟨_, q⟩ := w.pot _ e
  exact w.sys_ne q (fun ⟨_, z⟩ => by cases z) rfl

theorem same_new {H : Hp} {p : Addr} {o : HO} (h : H p = none) : Same H (upd H p o) := fun b x e => by
  rw [upd_ne (ne_of_none e h)]
  exact e
theorem same_upd2 {F H : Hp} {p : Addr} {o : HO} (s : Same F H) (h : F p = none) : Same F (upd H p o) := fun b x e => by
  rw [upd_ne (ne_of_none e h)]
  exact s b x e
theorem same_both {F H : Hp} {p : Addr} {o : HO} (s : Same F H) : Same (upd F p o) (upd H p o) := fun b x e => by
  by_cases hb : b = p
  · subst hb; rw [upd_same] at e ⊢; exact e
  · rw [upd_ne hb] at e ⊢; exact s b x e
/-- a new object, settled at once -/
theorem Wd.add {pa : Option Addr} {F H : Hp} {π : Pt} (w : Wd pa F H π) {p : Addr} {o : HO} (h : H p = none) : Post pa F H (upd F p o) (upd H p o) π where
  ff := same_new (w.free h)
  wd := ⟨same_both w.same, by
      obtain ⟨u, q, r⟩ := w.sys
      exact ⟨u, by rw [upd_ne (ne_of_none q h)]; exact q, r⟩, fun a e => by
      obtain ⟨q1, q2⟩ := w.pot a e
      have ne : a ≠ p := ne_of_none q2 h
      exact ⟨by rw [upd_ne ne]; exact q1, by rw [upd_ne ne]; exact q2⟩⟩
  keep := fun b x e _ => by rw [upd_ne (ne_of_none e h)]; exact e
  new := fun b x e => by
    by_cases hb : b = p
    · subst hb; exact .inr h
    · rw [upd_ne hb] at e; exact .inl e
/-- a new object, not yet settled -/
theorem Wd.addM {pa : Option Addr} {F H : Hp} {π : Pt} (w : Wd pa F H π) {p : Addr} {o : HO} (h : H p = none) : Post pa F H F (upd H p o) π where
  ff := Same.refl F
  wd := ⟨w.same.trans (same_new h), by
      obtain ⟨u, q, r⟩ := w.sys
      exact ⟨u, by rw [upd_ne (ne_of_none q h)]; exact q, r⟩, fun a e => by
      obtain ⟨q1, q2⟩ := w.pot a e
      exact ⟨q1, by rw [upd_ne (ne_of_none q2 h)]; exact q2⟩⟩
  keep := fun b x e _ => by rw [upd_ne (ne_of_none e h)]; exact e
  new := fun b x e => .inl e
/-- what stands unsettled is settled -/
theorem Wd.settle {pa : Option Addr} {F H : Hp} {π : Pt} (w : Wd pa F H π) {p : Addr} {o : HO} (hF : F p = none) (hp : pa ≠ some p) (h : H p = some o) : Same F (upd F p o) ∧ Wd pa (upd F p o) H π := by
  refine ⟨same_new hF, ⟨fun b x e => ?_, w.sys, fun a e => ?_⟩⟩
  · by_cases hb : b = p
    · subst hb; rw [upd_same] at e; cases e; exact h
    · rw [upd_ne hb] at e; exact w.same b x e
  · obtain ⟨q1, q2⟩ := w.pot a e
    have ne : a ≠ p := fun z => hp (by rw [← z]; exact e)
    exact ⟨by rw [upd_ne ne]; exact q1, q2⟩

def RpX (K : PySem.W.Frag) (pa : Option Addr) (F H : Hp) (v : V) (d : PyData) : Prop :=
  Rp K F v d ∨ ∃ a vs ds, v = .ref a ∧ d = .list ds ∧ F a = none ∧ pa ≠ some a ∧ H a = some (.lst vs) ∧ RpA K F vs ds
section
variable {K : PySem.W.Frag} {pa : Option Addr} {F H F' H' : Hp} {π π' : Pt} {v : V} {d : PyData}
theorem Rp.x (h : Rp K F v d) : RpX K pa F H v d := .inl h
theorem RpX.post (w : Wd pa F H π) (p : Post pa F H F' H' π') (h : RpX K pa F H v d) : RpX K pa F' H' v d := by
  rcases h with h | ⟨a, vs, ds, rfl, rfl, h1, h2, h3, h4⟩
  · exact .inl (h.mono p.ff)
  · refine .inr ⟨a, vs, ds, rfl, rfl, ?_, h2, p.keep a _ h3 h2, h4.mono p.ff⟩
    cases q : F' a with
    | none => rfl
    | some o =>
      rcases p.new a o q with z | z
      · rw [h1] at z; cases z
      · rw [h3] at z; cases z
theorem RpX.int_inv {i : Int} (h : RpX K pa F H v (.int i)) : v = .int i := by
  rcases h with h | ⟨a, vs, ds, _, e, _⟩
  · exact h.int_inv
  · cases e
theorem RpX.bool_inv {b : Bool} (h : RpX K pa F H v (.bool b)) : v = .bl b := by
  rcases h with h | ⟨a, vs, ds, _, e, _⟩
  · exact h.bool_inv
  · cases e
theorem RpX.str_inv {x : Str} (h : RpX K pa F H v (.str x)) : v = .str x := by
  rcases h with h | ⟨a, vs, ds, _, e, _⟩
  · exact h.str_inv
  · cases e
theorem RpX.non_inv (h : RpX K pa F H v .none) : v = .non := by
  rcases h with h | ⟨a, vs, ds, _, e, _⟩
  · exact h.non_inv
  · cases e
theorem RpX.tup_inv {ds : List PyData} (w : Wd pa F H π) (h : RpX K pa F H v (.tuple ds)) : ∃ a vs, v = .ref a ∧ SqT K H a vs ∧ RpA K F vs ds ∧ SqT K F a vs := by
  rcases h with h | ⟨a, vs, ds, _, e, _⟩
  · cases h with
    | tup h r => exact ⟨_, _, rfl, seqT_mono w.same h, r, h⟩
  · cases e
theorem RpX.lst_inv {ds : List PyData} (w : Wd pa F H π) (h : RpX K pa F H v (.list ds)) : ∃ a vs, v = .ref a ∧ SqL K H a vs ∧ RpA K F vs ds := by
  rcases h with h | ⟨a, vs, es, rfl, e, _, _, h3, h4⟩
  · cases h with
    | lst h r => exact ⟨_, _, rfl, w.same.seq h, r⟩
  · cases e
    exact ⟨_, _, rfl, .inl (.inl h3), h4⟩
theorem Rp.lst_inv {ds : List PyData} (h : Rp K F v (.list ds)) : ∃ a vs, v = .ref a ∧ SqL K F a vs ∧ RpA K F vs ds := by
  cases h with
  | lst h r => exact ⟨_, _, rfl, h, r⟩
theorem Rp.tup_inv {ds : List PyData} (h : Rp K F v (.tuple ds)) : ∃ a vs, v = .ref a ∧ SqT K F a vs ∧ RpA K F vs ds := by
  cases h with
  | tup h r => exact ⟨_, _, rfl, h, r⟩
end
end DL

set_option maxHeartbeats 1000000
namespace DL
open PySem PySem.Spec PyProof.Rows L2
set_option autoImplicit false

/-- a name's content: nothing known, settled data, an own list, the pot -/
inductive Sl where
  | e
  | d (x : PyData)
  | m (xs : List PyData)
  | p
abbrev Ev := List Sl
def SlOk (K : PySem.W.Frag) (pa : Option Addr) (H0 F H : Hp) (o : Option V) : Sl → Prop
  | .e => True
  | .d x => ∃ v, o = some v ∧ Rp K F v x
  | .m xs => ∃ a vs, o = some (.ref a) ∧ H0 a = none ∧ F a = none ∧ pa ≠ some a ∧ H a = some (.lst vs) ∧ RpA K F vs xs
  | .p => ∃ a, o = some (.ref a) ∧ pa = some a
structure StOk (K : PySem.W.Frag) (pa : Option Addr) (H0 F H : Hp) (σ : St) (ρ : Ev) : Prop where
  len : σ.length = ρ.length
  at_ : ∀ i s, ρ[i]? = some s → SlOk K pa H0 F H (σ.getD i none) s
  apart : ∀ i j xs ys, i ≠ j → ρ[i]? = some (.m xs) → ρ[j]? = some (.m ys) → σ.getD i none ≠ σ.getD j none
section
variable {K : PySem.W.Frag} {pa : Option Addr} {H0 F H F' H' : Hp} {π π' : Pt} {σ : St} {ρ : Ev}
theorem SlOk.post {o : Option V} {s : Sl} (w : Wd pa F H π) (p : Post pa F H F' H' π') (h : SlOk K pa H0 F H o s) : SlOk K pa H0 F' H' o s := by
  cases s with
  | e => trivial
  | d x =>
    obtain ⟨v, e, r⟩ := h
    exact ⟨v, e, r.mono p.ff⟩
  | m xs =>
    obtain ⟨a, vs, e, h0, h1, h2, h3, h4⟩ := h
    refine ⟨a, vs, e, h0, ?_, h2, p.keep a _ h3 h2, h4.mono p.ff⟩
    cases q : F' a with
    | none => rfl
    | some o =>
      rcases p.new a o q with z | z
      · rw [h1] at z; cases z
      · rw [h3] at z; cases z
  | p => exact h
theorem StOk.post (w : Wd pa F H π) (p : Post pa F H F' H' π') (h : StOk K pa H0 F H σ ρ) : StOk K pa H0 F' H' σ ρ :=
  ⟨h.len, fun i s e => (h.at_ i s e).post w p, h.apart⟩
theorem getD_of {σ : St} {i : Nat} {v : V} (h : σ.getD i none = some v) : σ[i]? = some (some v) := by
  rw [List.getD_eq_getElem?_getD] at h
  cases q : σ[i]? with
  | none => rw [q] at h; cases h
  | some o =>
    rw [q] at h
    have h : o = some v := h
    rw [h]
theorem StOk.data {i : Nat} {x : PyData} (h : StOk K pa H0 F H σ ρ) (e : ρ[i]? = some (.d x)) : ∃ v, σ[i]? = some (some v) ∧ Rp K F v x := by
  obtain ⟨v, e1, r⟩ := h.at_ i _ e
  exact ⟨v, getD_of e1, r⟩
theorem StOk.own {i : Nat} {xs : List PyData} (h : StOk K pa H0 F H σ ρ) (e : ρ[i]? = some (.m xs)) : ∃ a vs, σ[i]? = some (some (.ref a)) ∧ H0 a = none ∧ F a = none ∧ pa ≠ some a ∧ H a = some (.lst vs) ∧ RpA K F vs xs := by
  obtain ⟨a, vs, e1, r⟩ := h.at_ i _ e
  exact ⟨a, vs, getD_of e1, r⟩
theorem StOk.pot {i : Nat} (h : StOk K pa H0 F H σ ρ) (e : ρ[i]? = some .p) : ∃ a, σ[i]? = some (some (.ref a)) ∧ pa = some a := by
  obtain ⟨a, e1, r⟩ := h.at_ i _ e
  exact ⟨a, getD_of e1, r⟩
/-- a name is given settled data -/
theorem StOk.setD {i : Nat} {v : V} {x : PyData} (h : StOk K pa H0 F H σ ρ) (r : Rp K F v x) : StOk K pa H0 F H (σ.set i (some v)) (ρ.set i (.d x)) := by
  refine ⟨by rw [List.length_set, List.length_set]; exact h.len, fun j s e => ?_, fun j k xs ys ne e1 e2 => ?_⟩
  · by_cases hj : i = j
    · subst hj
      by_cases hl : i < ρ.length
      · rw [List.getElem?_set_self hl] at e
        cases e
        refine ⟨v, ?_, r⟩
        rw [List.getD_eq_getElem?_getD, List.getElem?_set_self (by rw [h.len]; exact hl)]
        rfl
      · rw [List.getElem?_eq_none (by rw [List.length_set]; omega)] at e
        cases e
    · rw [List.getElem?_set_ne hj] at e
      rw [List.getD_eq_getElem?_getD, List.getElem?_set_ne hj, ← List.getD_eq_getElem?_getD]
      exact h.at_ j s e
  · have hj : i ≠ j := fun z => by
      subst z
      by_cases hl : i < ρ.length
      · rw [List.getElem?_set_self hl] at e1; cases e1
      · rw [List.getElem?_eq_none (by rw [List.length_set]; omega)] at e1; cases e1
    have hk : i ≠ k := fun z => by
      subst z
      by_cases hl : i < ρ.length
      · rw [List.getElem?_set_self hl] at e2; cases e2
      · rw [List.getElem?_eq_none (by rw [List.length_set]; omega)] at e2; cases e2
    rw [List.getElem?_set_ne hj] at e1
    rw [List.getElem?_set_ne hk] at e2
    have q := h.apart j k xs ys ne e1 e2
    rw [List.getD_eq_getElem?_getD, List.getD_eq_getElem?_getD, List.getElem?_set_ne hj, List.getElem?_set_ne hk, ← List.getD_eq_getElem?_getD, ← List.getD_eq_getElem?_getD]
    exact q
/-- a name is given an own list that stands nowhere else -/
theorem StOk.setM {i : Nat} {a : Addr} {vs : List V} {xs : List PyData} (h : StOk K pa H0 F H σ ρ) (h0 : H0 a = none) (h1 : F a = none) (h2 : pa ≠ some a) (h3 : H a = some (.lst vs)) (h4 : RpA K F vs xs)
    (no : ∀ j ys, j ≠ i → ρ[j]? = some (.m ys) → σ.getD j none ≠ some (.ref a)) : StOk K pa H0 F H (σ.set i (some (.ref a))) (ρ.set i (.m xs)) := by
  refine ⟨by rw [List.length_set, List.length_set]; exact h.len, fun j s e => ?_, fun j k us ys ne e1 e2 => ?_⟩
  · by_cases hj : i = j
    · subst hj
      by_cases hl : i < ρ.length
      · rw [List.getElem?_set_self hl] at e
        cases e
        refine ⟨a, vs, ?_, h0, h1, h2, h3, h4⟩
        rw [List.getD_eq_getElem?_getD, List.getElem?_set_self (by rw [h.len]; exact hl)]
        rfl
      · rw [List.getElem?_eq_none (by rw [List.length_set]; omega)] at e
        cases e
    · rw [List.getElem?_set_ne hj] at e
      rw [List.getD_eq_getElem?_getD, List.getElem?_set_ne hj, ← List.getD_eq_getElem?_getD]
      exact h.at_ j s e
  · have self : ∀ {us : List PyData}, (ρ.set i (.m xs))[i]? = some (.m us) → i < σ.length := fun {us} e => by
      rw [h.len]
      exact Nat.lt_of_not_le fun hl => by rw [List.getElem?_eq_none (by rw [List.length_set]; exact hl)] at e; cases e
    by_cases hj : i = j
    · subst hj
      have hk : i ≠ k := ne
      have hi := self e1
      rw [List.getElem?_set_ne hk] at e2
      rw [List.getD_eq_getElem?_getD, List.getD_eq_getElem?_getD, List.getElem?_set_self hi, List.getElem?_set_ne hk, ← List.getD_eq_getElem?_getD]
      exact fun z => no k ys (Ne.symm hk) e2 z.symm
    · by_cases hk : i = k
      · subst hk
        have hi := self e2
        rw [List.getElem?_set_ne hj] at e1
        rw [List.getD_eq_getElem?_getD, List.getD_eq_getElem?_getD, List.getElem?_set_self hi, List.getElem?_set_ne hj, ← List.getD_eq_getElem?_getD]
        exact no j us (Ne.symm hj) e1
      · rw [List.getElem?_set_ne hj] at e1
        rw [List.getElem?_set_ne hk] at e2
        have q := h.apart j k us ys ne e1 e2
        rw [List.getD_eq_getElem?_getD, List.getD_eq_getElem?_getD, List.getElem?_set_ne hj, List.getElem?_set_ne hk, ← List.getD_eq_getElem?_getD, ← List.getD_eq_getElem?_getD]
        exact q
/-- an own list's content has changed, all else stands -/
theorem StOk.writeM {i : Nat} {a : Addr} {vs' : List V} {xs xs' : List PyData} (h : StOk K pa H0 F H σ ρ) (e : ρ[i]? = some (.m xs)) (ea : σ[i]? = some (some (.ref a))) (r : RpA K F vs' xs') :
    StOk K pa H0 F (upd H a (.lst vs')) σ (ρ.set i (.m xs')) := by
  have hi : i < ρ.length := (List.getElem?_eq_some_iff.mp e).1
  obtain ⟨b, ws, e1, q0, q1, q2, q3, q4⟩ := h.own e
  rw [ea] at e1
  cases e1
  have gi : σ.getD i none = some (.ref a) := by rw [List.getD_eq_getElem?_getD, ea]; rfl
  refine ⟨by rw [List.length_set]; exact h.len, fun j s ej => ?_, fun j k us ys ne e1 e2 => ?_⟩
  · by_cases hj : i = j
    · subst hj
      rw [List.getElem?_set_self hi] at ej
      cases ej
      exact ⟨a, vs', gi, q0, q1, q2, upd_same, r⟩
    · rw [List.getElem?_set_ne hj] at ej
      have q := h.at_ j s ej
      cases s with
      | e => trivial
      | d x => exact q
      | p => exact q
      | m ys =>
        obtain ⟨b, us, z1, z0, z2, z3, z4, z5⟩ := q
        have ne : b ≠ a := fun z => by
          subst z
          exact h.apart i j _ _ hj e ej (gi.trans z1.symm)
        exact ⟨b, us, z1, z0, z2, z3, by rw [upd_ne ne]; exact z4, z5⟩
  · have old : ∀ {l : Nat} {us : List PyData}, (ρ.set i (.m xs'))[l]? = some (.m us) → ∃ us', ρ[l]? = some (.m us') := fun {l us} z => by
      by_cases hl : i = l
      · subst hl; exact ⟨_, e⟩
      · rw [List.getElem?_set_ne hl] at z; exact ⟨_, z⟩
    obtain ⟨u1, z1⟩ := old e1
    obtain ⟨u2, z2⟩ := old e2
    exact h.apart j k u1 u2 ne z1 z2
/-- an own list is settled -/
theorem StOk.settleM {i : Nat} {a : Addr} {vs : List V} {xs : List PyData} (h : StOk K pa H0 F H σ ρ) (e : ρ[i]? = some (.m xs)) (ea : σ[i]? = some (some (.ref a))) (h3 : H a = some (.lst vs)) (r : RpA K F vs xs) (hF : F a = none) :
    StOk K pa H0 (upd F a (.lst vs)) H σ (ρ.set i (.d (.list xs))) := by
  have hi : i < ρ.length := (List.getElem?_eq_some_iff.mp e).1
  have gi : σ.getD i none = some (.ref a) := by rw [List.getD_eq_getElem?_getD, ea]; rfl
  have sf : Same F (upd F a (.lst vs)) := same_new hF
  refine ⟨by rw [List.length_set]; exact h.len, fun j s ej => ?_, fun j k us ys ne e1 e2 => ?_⟩
  · by_cases hj : i = j
    · subst hj
      rw [List.getElem?_set_self hi] at ej
      cases ej
      exact ⟨.ref a, gi, .lst (.inl (.inl upd_same)) (r.mono sf)⟩
    · rw [List.getElem?_set_ne hj] at ej
      have q := h.at_ j s ej
      cases s with
      | e => trivial
      | d x =>
        obtain ⟨v, z1, z2⟩ := q
        exact ⟨v, z1, z2.mono sf⟩
      | p => exact q
      | m ys =>
        obtain ⟨b, us, z1, z0, z2, z3, z4, z5⟩ := q
        have ne : b ≠ a := fun z => by
          subst z
          exact h.apart i j _ _ hj e ej (gi.trans z1.symm)
        exact ⟨b, us, z1, z0, by rw [upd_ne ne]; exact z2, z3, z4, z5.mono sf⟩
  · have old : ∀ {l : Nat} {us : List PyData}, (ρ.set i (.d (.list xs)))[l]? = some (.m us) → ρ[l]? = some (.m us) := fun {l us} z => by
      by_cases hl : i = l
      · subst hl; rw [List.getElem?_set_self hi] at z; cases z
      · rw [List.getElem?_set_ne hl] at z; exact z
    exact h.apart j k us ys ne (old e1) (old e2)
end

abbrev MX := Ev → Pt → Option (PyData × Pt)
abbrev ML := Ev → Pt → Option (List PyData × Pt)
abbrev MT := Ev → Pt → Option (Bool × Pt)
section
variable (K : PySem.W.Frag)
/-- te gives a readable value of the datum that f tells -/
def EvX (te : TE) (f : MX) : Prop := ∀ ρ π d π', f ρ π = some (d, π') → ∀ pa H0 F H σ Q, Wd pa F H π → StOk K pa H0 F H σ ρ → (∀ v F' H', Post pa F H F' H' π' → RpX K pa F' H' v d → Q v H') → te σ H Q
/-- .. a settled one -/
def EvE (te : TE) (f : MX) : Prop := ∀ ρ π d π', f ρ π = some (d, π') → ∀ pa H0 F H σ Q, Wd pa F H π → StOk K pa H0 F H σ ρ → (∀ v F' H', Post pa F H F' H' π' → Rp K F' v d → Q v H') → te σ H Q
/-- .. a new list -/
def EvN (te : TE) (f : ML) : Prop := ∀ ρ π ds π', f ρ π = some (ds, π') → ∀ pa H0 F H σ Q, Wd pa F H π → StOk K pa H0 F H σ ρ →
  (∀ a vs F' H', Post pa F H F' H' π' → H a = none → F' a = none → pa ≠ some a → H' a = some (.lst vs) → RpA K F' vs ds → Q (.ref a) H') → te σ H Q
def EvT (tt : TT) (f : MT) : Prop := ∀ ρ π b π', f ρ π = some (b, π') → ∀ pa H0 F H σ Q, Wd pa F H π → StOk K pa H0 F H σ ρ → (∀ F' H', Post pa F H F' H' π' → Q b H') → tt σ H Q
/-- arguments: settled ones -/
def EvA (ta : TA) (f : ML) : Prop := ∀ ρ π ds π', f ρ π = some (ds, π') → ∀ pa H0 F H σ Q, Wd pa F H π → StOk K pa H0 F H σ ρ → (∀ vs F' H', Post pa F H F' H' π' → RpA K F' vs ds → Q vs H') → ta σ H Q
end
section
variable {K : PySem.W.Frag} {te ta tb : TE} {f g h : MX} {l : ML} {tt tu : TT} {b c : MT}
theorem EvE.x (e : EvE K te f) : EvX K te f := fun ρ π d π' hf pa H0 F H σ Q w s q => e ρ π d π' hf pa H0 F H σ Q w s fun v F' H' p r => q v F' H' p (.inl r)
def fL (l : ML) : MX := fun ρ π => (l ρ π).map fun (ds, π') => (.list ds, π')
theorem fL_some {l : ML} {ρ : Ev} {π : Pt} {d : PyData} {π' : Pt} (h : fL l ρ π = some (d, π')) : ∃ ds, d = .list ds ∧ l ρ π = some (ds, π') := by
  unfold fL at h
  cases q : l ρ π with
  | none => rw [q] at h; cases h
  | some r =>
    obtain ⟨ds, π1⟩ := r
    rw [q] at h
    cases h
    exact ⟨ds, rfl, rfl⟩
theorem EvN.e (e : EvN K te l) : EvE K te (fL l) := fun ρ π d π' hf pa H0 F H σ Q w s q => by
  obtain ⟨ds, rfl, hl⟩ := fL_some hf
  refine e ρ π ds π' hl pa H0 F H σ Q w s fun a vs F' H' p ha hF hp hH r => ?_
  obtain ⟨s1, w1⟩ := p.wd.settle hF hp hH
  refine q (.ref a) (upd F' a (.lst vs)) H' ⟨p.ff.trans s1, w1, p.keep, fun c o hc => ?_⟩ (.lst (.inl (.inl upd_same)) (r.mono s1))
  by_cases hca : c = a
  · subst hca; exact .inr ha
  · rw [upd_ne hca] at hc; exact p.new c o hc
theorem EvN.x (e : EvN K te l) : EvX K te (fL l) := e.e.x

def fV (i : Nat) : MX := fun ρ π => match ρ[i]? with
  | some (.d x) => some (x, π)
  | _ => none
def fVx (i : Nat) : MX := fun ρ π => match ρ[i]? with
  | some (.d x) => some (x, π)
  | some (.m xs) => some (.list xs, π)
  | _ => none
def fC (d : PyData) : MX := fun _ π => some (d, π)
theorem ev_var (i : Nat) : EvE K (tVar i) (fV i) := fun ρ π d π' hf pa H0 F H σ Q w s q => by
  unfold fV at hf
  split at hf
  · rename_i x e
    cases hf
    obtain ⟨v, e1, r⟩ := s.data e
    exact ⟨v, e1, q v F H (.refl w) r⟩
  · cases hf
theorem ev_varx (i : Nat) : EvX K (tVar i) (fVx i) := fun ρ π d π' hf pa H0 F H σ Q w s q => by
  unfold fVx at hf
  split at hf
  · rename_i x e
    cases hf
    obtain ⟨v, e1, r⟩ := s.data e
    exact ⟨v, e1, q v F H (.refl w) (.inl r)⟩
  · rename_i xs e
    cases hf
    obtain ⟨a, vs, e1, h0, h1, h2, h3, h4⟩ := s.own e
    exact ⟨.ref a, e1, q _ F H (.refl w) (.inr ⟨a, vs, xs, rfl, rfl, h1, h2, h3, h4⟩)⟩
  · cases hf
theorem ev_int (i : Int) : EvE K (tC (.int i)) (fC (.int i)) := fun ρ π d π' hf pa H0 F H σ Q w s q => by
  cases hf; exact q _ F H (.refl w) (.int i)
theorem ev_bl (i : Bool) : EvE K (tC (.bl i)) (fC (.bool i)) := fun ρ π d π' hf pa H0 F H σ Q w s q => by
  cases hf; exact q _ F H (.refl w) (.bl i)
theorem ev_str (i : Str) : EvE K (tC (.str i)) (fC (.str i)) := fun ρ π d π' hf pa H0 F H σ Q w s q => by
  cases hf; exact q _ F H (.refl w) (.str i)
theorem ev_non : EvE K (tC .non) (fC .none) := fun ρ π d π' hf pa H0 F H σ Q w s q => by
  cases hf; exact q _ F H (.refl w) .non

/-- r, asked of readable values, gives the settled datum that g tells -/
def Sim2 (K : PySem.W.Frag) (r : R2) (g : PyData → PyData → Option PyData) : Prop :=
  ∀ pa F H π x y dx dy d Q, Wd pa F H π → RpX K pa F H x dx → RpX K pa F H y dy → g dx dy = some d → (∀ v F' H', Post pa F H F' H' π → Rp K F' v d → Q v H') → r x y H Q
def fB (g : PyData → PyData → Option PyData) (f h : MX) : MX := fun ρ π => (f ρ π).bind fun (x, π1) => (h ρ π1).bind fun (y, π2) => (g x y).map fun d => (d, π2)
theorem fB_some {g : PyData → PyData → Option PyData} {ρ : Ev} {π π' : Pt} {d : PyData} (e : fB g f h ρ π = some (d, π')) : ∃ x π1 y, f ρ π = some (x, π1) ∧ h ρ π1 = some (y, π') ∧ g x y = some d := by
  unfold fB at e
  cases q : f ρ π with
  | none => rw [q] at e; cases e
  | some r =>
    obtain ⟨x, π1⟩ := r
    rw [q] at e
    cases q2 : h ρ π1 with
    | none => simp only [Option.bind_some, q2] at e; cases e
    | some r2 =>
      obtain ⟨y, π2⟩ := r2
      simp only [Option.bind_some, q2] at e
      cases q3 : g x y with
      | none => rw [q3] at e; cases e
      | some d' =>
        rw [q3] at e
        cases e
        exact ⟨x, π1, y, rfl, q2, q3⟩
theorem ev_op {r : R2} {g : PyData → PyData → Option PyData} (sm : Sim2 K r g) (ea : EvX K ta f) (eb : EvX K tb h) : EvE K (tOp r ta tb) (fB g f h) := fun ρ π d π' hf pa H0 F H σ Q w s q => by
  obtain ⟨x, π1, y, e1, e2, e3⟩ := fB_some hf
  refine ea ρ π x π1 e1 pa H0 F H σ _ w s fun v F1 H1 p1 r1 => ?_
  refine eb ρ π1 y π' e2 pa H0 F1 H1 σ _ p1.wd (s.post w p1) fun u F2 H2 p2 r2 => ?_
  exact sm pa F2 H2 π' v u x y d Q p2.wd (r1.post p1.wd p2) r2 e3 fun z F3 H3 p3 r3 => q z F3 H3 ((p1.trans w p2).trans w p3) r3
/-- .. gives a new list -/
def Sim2N (K : PySem.W.Frag) (r : R2) (g : PyData → PyData → Option (List PyData)) : Prop :=
  ∀ pa F H π x y dx dy ds Q, Wd pa F H π → RpX K pa F H x dx → RpX K pa F H y dy → g dx dy = some ds →
    (∀ a vs F' H', Post pa F H F' H' π → H a = none → F' a = none → pa ≠ some a → H' a = some (.lst vs) → RpA K F' vs ds → Q (.ref a) H') → r x y H Q
def fBN (g : PyData → PyData → Option (List PyData)) (f h : MX) : ML := fun ρ π => (f ρ π).bind fun (x, π1) => (h ρ π1).bind fun (y, π2) => (g x y).map fun d => (d, π2)
theorem fBN_some {g : PyData → PyData → Option (List PyData)} {ρ : Ev} {π π' : Pt} {d : List PyData} (e : fBN g f h ρ π = some (d, π')) : ∃ x π1 y, f ρ π = some (x, π1) ∧ h ρ π1 = some (y, π') ∧ g x y = some d := by
  unfold fBN at e
  cases q : f ρ π with
  | none => rw [q] at e; cases e
  | some r =>
    obtain ⟨x, π1⟩ := r
    rw [q] at e
    cases q2 : h ρ π1 with
    | none => simp only [Option.bind_some, q2] at e; cases e
    | some r2 =>
      obtain ⟨y, π2⟩ := r2
      simp only [Option.bind_some, q2] at e
      cases q3 : g x y with
      | none => rw [q3] at e; cases e
      | some d' =>
        rw [q3] at e
        cases e
        exact ⟨x, π1, y, rfl, q2, q3⟩
theorem ev_opN {r : R2} {g : PyData → PyData → Option (List PyData)} (sm : Sim2N K r g) (ea : EvX K ta f) (eb : EvX K tb h) : EvN K (tOp r ta tb) (fBN g f h) := fun ρ π d π' hf pa H0 F H σ Q w s q => by
  obtain ⟨x, π1, y, e1, e2, e3⟩ := fBN_some hf
  refine ea ρ π x π1 e1 pa H0 F H σ _ w s fun v F1 H1 p1 r1 => ?_
  refine eb ρ π1 y π' e2 pa H0 F1 H1 σ _ p1.wd (s.post w p1) fun u F2 H2 p2 r2 => ?_
  have p12 := p1.trans w p2
  exact sm pa F2 H2 π' v u x y d Q p2.wd (r1.post p1.wd p2) r2 e3 fun a vs F3 H3 p3 ha hF hp hH r3 => q a vs F3 H3 (p12.trans w p3) (p12.fresh ha) hF hp hH r3
/-- one operand -/
def Sim1 (K : PySem.W.Frag) (r : V → Hp → VK → Prop) (g : PyData → Option PyData) : Prop :=
  ∀ pa F H π x dx d Q, Wd pa F H π → RpX K pa F H x dx → g dx = some d → (∀ v F' H', Post pa F H F' H' π → Rp K F' v d → Q v H') → r x H Q
def fU (g : PyData → Option PyData) (f : MX) : MX := fun ρ π => (f ρ π).bind fun (x, π1) => (g x).map fun d => (d, π1)
theorem fU_some {g : PyData → Option PyData} {ρ : Ev} {π π' : Pt} {d : PyData} (e : fU g f ρ π = some (d, π')) : ∃ x, f ρ π = some (x, π') ∧ g x = some d := by
  unfold fU at e
  cases q : f ρ π with
  | none => rw [q] at e; cases e
  | some r =>
    obtain ⟨x, π1⟩ := r
    rw [q] at e
    simp only [Option.bind_some] at e
    cases q3 : g x with
    | none => rw [q3] at e; cases e
    | some d' =>
      rw [q3] at e
      cases e
      exact ⟨x, rfl, q3⟩
theorem ev_un {r : V → Hp → VK → Prop} {g : PyData → Option PyData} (sm : Sim1 K r g) (ea : EvX K ta f) : EvE K (tUn r ta) (fU g f) := fun ρ π d π' hf pa H0 F H σ Q w s q => by
  obtain ⟨x, e1, e3⟩ := fU_some hf
  refine ea ρ π x π' e1 pa H0 F H σ _ w s fun v F1 H1 p1 r1 => ?_
  exact sm pa F1 H1 π' v x d Q p1.wd r1 e3 fun z F3 H3 p3 r3 => q z F3 H3 (p1.trans w p3) r3
/-- a call of a built-in with one argument -/
def SimC1 (K : PySem.W.Frag) (r : List V → Hp → VK → Prop) (g : PyData → Option PyData) : Prop :=
  ∀ pa F H π x dx d Q, Wd pa F H π → RpX K pa F H x dx → g dx = some d → (∀ v F' H', Post pa F H F' H' π → Rp K F' v d → Q v H') → r [x] H Q
theorem ev_c1 {r : List V → Hp → VK → Prop} {g : PyData → Option PyData} (sm : SimC1 K r g) (ea : EvX K ta f) : EvE K (tCB r (tCons ta tNil)) (fU g f) := fun ρ π d π' hf pa H0 F H σ Q w s q => by
  obtain ⟨x, e1, e3⟩ := fU_some hf
  refine ea ρ π x π' e1 pa H0 F H σ _ w s fun v F1 H1 p1 r1 => ?_
  exact sm pa F1 H1 π' v x d Q p1.wd r1 e3 fun z F3 H3 p3 r3 => q z F3 H3 (p1.trans w p3) r3
def SimC1N (K : PySem.W.Frag) (r : List V → Hp → VK → Prop) (g : PyData → Option (List PyData)) : Prop :=
  ∀ pa F H π x dx ds Q, Wd pa F H π → RpX K pa F H x dx → g dx = some ds →
    (∀ a vs F' H', Post pa F H F' H' π → H a = none → F' a = none → pa ≠ some a → H' a = some (.lst vs) → RpA K F' vs ds → Q (.ref a) H') → r [x] H Q
def fUN (g : PyData → Option (List PyData)) (f : MX) : ML := fun ρ π => (f ρ π).bind fun (x, π1) => (g x).map fun d => (d, π1)
theorem fUN_some {g : PyData → Option (List PyData)} {ρ : Ev} {π π' : Pt} {d : List PyData} (e : fUN g f ρ π = some (d, π')) : ∃ x, f ρ π = some (x, π') ∧ g x = some d := by
  unfold fUN at e
  cases q : f ρ π with
  | none => rw [q] at e; cases e
  | some r =>
    obtain ⟨x, π1⟩ := r
    rw [q] at e
    simp only [Option.bind_some] at e
    cases q3 : g x with
    | none => rw [q3] at e; cases e
    | some d' =>
      rw [q3] at e
      cases e
      exact ⟨x, rfl, q3⟩
theorem ev_c1N {r : List V → Hp → VK → Prop} {g : PyData → Option (List PyData)} (sm : SimC1N K r g) (ea : EvX K ta f) : EvN K (tCB r (tCons ta tNil)) (fUN g f) := fun ρ π d π' hf pa H0 F H σ Q w s q => by
  obtain ⟨x, e1, e3⟩ := fUN_some hf
  refine ea ρ π x π' e1 pa H0 F H σ _ w s fun v F1 H1 p1 r1 => ?_
  exact sm pa F1 H1 π' v x d Q p1.wd r1 e3 fun a vs F3 H3 p3 ha hF hp hH r3 => q a vs F3 H3 (p1.trans w p3) (p1.fresh ha) hF hp hH r3
def SimC2 (K : PySem.W.Frag) (r : List V → Hp → VK → Prop) (g : PyData → PyData → Option PyData) : Prop :=
  ∀ pa F H π x y dx dy d Q, Wd pa F H π → RpX K pa F H x dx → RpX K pa F H y dy → g dx dy = some d → (∀ v F' H', Post pa F H F' H' π → Rp K F' v d → Q v H') → r [x, y] H Q
theorem ev_c2 {r : List V → Hp → VK → Prop} {g : PyData → PyData → Option PyData} (sm : SimC2 K r g) (ea : EvX K ta f) (eb : EvX K tb h) : EvE K (tCB r (tCons ta (tCons tb tNil))) (fB g f h) := fun ρ π d π' hf pa H0 F H σ Q w s q => by
  obtain ⟨x, π1, y, e1, e2, e3⟩ := fB_some hf
  refine ea ρ π x π1 e1 pa H0 F H σ _ w s fun v F1 H1 p1 r1 => ?_
  refine eb ρ π1 y π' e2 pa H0 F1 H1 σ _ p1.wd (s.post w p1) fun u F2 H2 p2 r2 => ?_
  exact sm pa F2 H2 π' v u x y d Q p2.wd (r1.post p1.wd p2) r2 e3 fun z F3 H3 p3 r3 => q z F3 H3 ((p1.trans w p2).trans w p3) r3

/-! #### tests -/
def asB : Option (PyData × Pt) → Option (Bool × Pt)
  | some (.bool b, π) => some (b, π)
  | _ => none
theorem asB_some {o : Option (PyData × Pt)} {b : Bool} {π : Pt} (h : asB o = some (b, π)) : o = some (.bool b, π) := by
  unfold asB at h
  split at h
  · cases h; rfl
  · cases h
def fTv (f : MX) : MT := fun ρ π => asB (f ρ π)
theorem evt_val (e : EvX K te f) : EvT K (tB te) (fTv f) := fun ρ π b π' hf pa H0 F H σ Q w s q =>
  e ρ π (.bool b) π' (asB_some hf) pa H0 F H σ _ w s fun v F' H' p r => ⟨b, r.bool_inv, q F' H' p⟩
theorem evt_test (e : EvX K te f) : EvT K (tTest te) (fTv f) := fun ρ π b π' hf pa H0 F H σ Q w s q =>
  e ρ π (.bool b) π' (asB_some hf) pa H0 F H σ _ w s fun v F' H' p r => ⟨b, r.bool_inv, q F' H' p⟩
def fNotT (b : MT) : MT := fun ρ π => (b ρ π).map fun (x, π1) => (!x, π1)
def fAndT (b c : MT) : MT := fun ρ π => (b ρ π).bind fun (x, π1) => if x = true then c ρ π1 else some (false, π1)
def fOrT (b c : MT) : MT := fun ρ π => (b ρ π).bind fun (x, π1) => if x = true then some (true, π1) else c ρ π1
theorem evt_not (e : EvT K tt b) : EvT K (tNot tt) (fNotT b) := fun ρ π x π' hf pa H0 F H σ Q w s q => by
  unfold fNotT at hf
  cases e1 : b ρ π with
  | none => rw [e1] at hf; cases hf
  | some r =>
    obtain ⟨y, π1⟩ := r
    rw [e1] at hf
    cases hf
    exact e ρ π y _ e1 pa H0 F H σ _ w s fun F' H' p => q F' H' p
theorem evt_and (e : EvT K tt b) (e2 : EvT K tu c) : EvT K (tAnd tt tu) (fAndT b c) := fun ρ π x π' hf pa H0 F H σ Q w s q => by
  unfold fAndT at hf
  cases e1 : b ρ π with
  | none => rw [e1] at hf; cases hf
  | some r =>
    obtain ⟨y, π1⟩ := r
    rw [e1] at hf
    simp only [Option.bind_some] at hf
    refine e ρ π y π1 e1 pa H0 F H σ _ w s fun F1 H1 p => ?_
    cases y with
    | true =>
      rw [if_pos rfl] at hf ⊢
      exact e2 ρ π1 x π' hf pa H0 F1 H1 σ _ p.wd (s.post w p) fun F2 H2 p2 => q F2 H2 (p.trans w p2)
    | false =>
      rw [if_neg Bool.false_ne_true] at hf ⊢
      cases hf
      exact q F1 H1 p
theorem evt_or (e : EvT K tt b) (e2 : EvT K tu c) : EvT K (tOr tt tu) (fOrT b c) := fun ρ π x π' hf pa H0 F H σ Q w s q => by
  unfold fOrT at hf
  cases e1 : b ρ π with
  | none => rw [e1] at hf; cases hf
  | some r =>
    obtain ⟨y, π1⟩ := r
    rw [e1] at hf
    simp only [Option.bind_some] at hf
    refine e ρ π y π1 e1 pa H0 F H σ _ w s fun F1 H1 p => ?_
    cases y with
    | false =>
      rw [if_neg Bool.false_ne_true] at hf ⊢
      exact e2 ρ π1 x π' hf pa H0 F1 H1 σ _ p.wd (s.post w p) fun F2 H2 p2 => q F2 H2 (p.trans w p2)
    | true =>
      rw [if_pos rfl] at hf ⊢
      cases hf
      exact q F1 H1 p
def fAndV (f g : MX) : MX := fun ρ π => (asB (f ρ π)).bind fun (x, π1) => if x = true then g ρ π1 else some (.bool false, π1)
def fOrV (f g : MX) : MX := fun ρ π => (asB (f ρ π)).bind fun (x, π1) => if x = true then some (.bool true, π1) else g ρ π1
def fNotV (f : MX) : MX := fun ρ π => (asB (f ρ π)).map fun (x, π1) => (.bool (!x), π1)
theorem ev_andV (e : EvX K ta f) (e2 : EvE K tb g) : EvE K (tAndV ta tb) (fAndV f g) := fun ρ π x π' hf pa H0 F H σ Q w s q => by
  unfold fAndV at hf
  cases e1 : asB (f ρ π) with
  | none => rw [e1] at hf; cases hf
  | some r =>
    obtain ⟨y, π1⟩ := r
    rw [e1] at hf
    simp only [Option.bind_some] at hf
    refine e ρ π _ π1 (asB_some e1) pa H0 F H σ _ w s fun v F1 H1 p r => ⟨y, r.bool_inv, ?_⟩
    cases y with
    | true =>
      rw [if_pos rfl] at hf ⊢
      exact e2 ρ π1 x π' hf pa H0 F1 H1 σ _ p.wd (s.post w p) fun v F2 H2 p2 r2 => q v F2 H2 (p.trans w p2) r2
    | false =>
      rw [if_neg Bool.false_ne_true] at hf ⊢
      cases hf
      exact q _ F1 H1 p (.bl false)
theorem ev_orV (e : EvX K ta f) (e2 : EvE K tb g) : EvE K (tOrV ta tb) (fOrV f g) := fun ρ π x π' hf pa H0 F H σ Q w s q => by
  unfold fOrV at hf
  cases e1 : asB (f ρ π) with
  | none => rw [e1] at hf; cases hf
  | some r =>
    obtain ⟨y, π1⟩ := r
    rw [e1] at hf
    simp only [Option.bind_some] at hf
    refine e ρ π _ π1 (asB_some e1) pa H0 F H σ _ w s fun v F1 H1 p r => ⟨y, r.bool_inv, ?_⟩
    cases y with
    | false =>
      rw [if_neg Bool.false_ne_true] at hf ⊢
      exact e2 ρ π1 x π' hf pa H0 F1 H1 σ _ p.wd (s.post w p) fun v F2 H2 p2 r2 => q v F2 H2 (p.trans w p2) r2
    | true =>
      rw [if_pos rfl] at hf ⊢
      cases hf
      exact q _ F1 H1 p (.bl true)
theorem ev_notV (e : EvX K ta f) : EvE K (tNotV ta) (fNotV f) := fun ρ π x π' hf pa H0 F H σ Q w s q => by
  unfold fNotV at hf
  cases e1 : asB (f ρ π) with
  | none => rw [e1] at hf; cases hf
  | some r =>
    obtain ⟨y, π1⟩ := r
    rw [e1] at hf
    cases hf
    exact e ρ π _ _ (asB_some e1) pa H0 F H σ _ w s fun v F1 H1 p r => ⟨y, r.bool_inv, q _ F1 H1 p (.bl _)⟩
/-- a if t else b -/
def fIf (b : MT) (f g : MX) : MX := fun ρ π => (b ρ π).bind fun (x, π1) => if x = true then f ρ π1 else g ρ π1
theorem ev_if (e : EvT K tt b) (ea : EvE K ta f) (eb : EvE K tb g) : EvE K (tIf tt ta tb) (fIf b f g) := fun ρ π x π' hf pa H0 F H σ Q w s q => by
  unfold fIf at hf
  cases e1 : b ρ π with
  | none => rw [e1] at hf; cases hf
  | some r =>
    obtain ⟨y, π1⟩ := r
    rw [e1] at hf
    simp only [Option.bind_some] at hf
    refine e ρ π y π1 e1 pa H0 F H σ _ w s fun F1 H1 p => ?_
    cases y with
    | true =>
      rw [if_pos rfl] at hf ⊢
      exact ea ρ π1 x π' hf pa H0 F1 H1 σ _ p.wd (s.post w p) fun v F2 H2 p2 r2 => q v F2 H2 (p.trans w p2) r2
    | false =>
      rw [if_neg Bool.false_ne_true] at hf ⊢
      exact eb ρ π1 x π' hf pa H0 F1 H1 σ _ p.wd (s.post w p) fun v F2 H2 p2 r2 => q v F2 H2 (p.trans w p2) r2
/-- .. of two new lists -/
def fIfN (b : MT) (f g : ML) : ML := fun ρ π => (b ρ π).bind fun (x, π1) => if x = true then f ρ π1 else g ρ π1
theorem ev_ifN {k l : ML} (e : EvT K tt b) (ea : EvN K ta k) (eb : EvN K tb l) : EvN K (tIf tt ta tb) (fIfN b k l) := fun ρ π x π' hf pa H0 F H σ Q w s q => by
  unfold fIfN at hf
  cases e1 : b ρ π with
  | none => rw [e1] at hf; cases hf
  | some r =>
    obtain ⟨y, π1⟩ := r
    rw [e1] at hf
    simp only [Option.bind_some] at hf
    refine e ρ π y π1 e1 pa H0 F H σ _ w s fun F1 H1 p => ?_
    cases y with
    | true =>
      rw [if_pos rfl] at hf ⊢
      exact ea ρ π1 x π' hf pa H0 F1 H1 σ _ p.wd (s.post w p) fun a vs F2 H2 p2 ha hF hp hH r2 => q a vs F2 H2 (p.trans w p2) (p.fresh ha) hF hp hH r2
    | false =>
      rw [if_neg Bool.false_ne_true] at hf ⊢
      exact eb ρ π1 x π' hf pa H0 F1 H1 σ _ p.wd (s.post w p) fun a vs F2 H2 p2 ha hF hp hH r2 => q a vs F2 H2 (p.trans w p2) (p.fresh ha) hF hp hH r2
/-- a op1 b op2 c -/
def fCh (g g' : PyData → PyData → Option PyData) (f h k : MX) : MX := fun ρ π => (f ρ π).bind fun (x, π1) => (h ρ π1).bind fun (y, π2) =>
  match g x y with
  | some (.bool true) => (k ρ π2).bind fun (z, π3) => (g' y z).map fun d => (d, π3)
  | some (.bool false) => some (.bool false, π2)
  | _ => none
theorem ev_chain {tc : TE} {k : MX} {r r' : R2} {g g' : PyData → PyData → Option PyData} (sm : Sim2 K r g) (sm' : Sim2 K r' g') (ea : EvX K ta f) (eb : EvX K tb h) (ec : EvX K tc k) : EvE K (tChain r r' ta tb tc) (fCh g g' f h k) := fun ρ π d π' hf pa H0 F H σ Q w s q => by
  unfold fCh at hf
  cases e1 : f ρ π with
  | none => rw [e1] at hf; cases hf
  | some o1 =>
    obtain ⟨x, π1⟩ := o1
    rw [e1] at hf
    simp only [Option.bind_some] at hf
    cases e2 : h ρ π1 with
    | none => rw [e2] at hf; cases hf
    | some o2 =>
      obtain ⟨y, π2⟩ := o2
      rw [e2] at hf
      simp only [Option.bind_some] at hf
      refine ea ρ π x π1 e1 pa H0 F H σ _ w s fun v F1 H1 p1 r1 => ?_
      refine eb ρ π1 y π2 e2 pa H0 F1 H1 σ _ p1.wd (s.post w p1) fun u F2 H2 p2 r2 => ?_
      have p12 := p1.trans w p2
      split at hf
      · rename_i e3
        cases e4 : k ρ π2 with
        | none => rw [e4] at hf; cases hf
        | some o4 =>
          obtain ⟨z, π3⟩ := o4
          rw [e4] at hf
          simp only [Option.bind_some] at hf
          cases e5 : g' y z with
          | none => rw [e5] at hf; cases hf
          | some d' =>
            rw [e5] at hf
            cases hf
            refine sm pa F2 H2 π2 v u x y _ _ p2.wd (r1.post p1.wd p2) r2 e3 fun zv F3 H3 p3 r3 => ⟨true, r3.bool_inv, ?_⟩
            rw [if_pos rfl]
            have p13 := p12.trans w p3
            refine ec ρ π2 z _ e4 pa H0 F3 H3 σ _ p3.wd (s.post w p13) fun t F4 H4 p4 r4 => ?_
            exact sm' pa F4 H4 _ u t y z d Q p4.wd ((r2.post p2.wd p3).post p3.wd p4) r4 e5 fun z5 F5 H5 p5 r5 => q z5 F5 H5 ((p13.trans w p4).trans w p5) r5
      · rename_i e3
        cases hf
        refine sm pa F2 H2 _ v u x y _ _ p2.wd (r1.post p1.wd p2) r2 e3 fun zv F3 H3 p3 r3 => ⟨false, r3.bool_inv, ?_⟩
        rw [if_neg Bool.false_ne_true]
        exact q _ F3 H3 (p12.trans w p3) (.bl false)
      · cases hf

/-! #### displays -/
def fNil : ML := fun _ π => some ([], π)
def fCons (f : MX) (l : ML) : ML := fun ρ π => (f ρ π).bind fun (x, π1) => (l ρ π1).map fun (xs, π2) => (x :: xs, π2)
theorem fCons_some {ρ : Ev} {π π' : Pt} {ds : List PyData} (e : fCons f l ρ π = some (ds, π')) : ∃ x π1 xs, f ρ π = some (x, π1) ∧ l ρ π1 = some (xs, π') ∧ ds = x :: xs := by
  unfold fCons at e
  cases q : f ρ π with
  | none => rw [q] at e; cases e
  | some r =>
    obtain ⟨x, π1⟩ := r
    rw [q] at e
    simp only [Option.bind_some] at e
    cases q2 : l ρ π1 with
    | none => rw [q2] at e; cases e
    | some r2 =>
      obtain ⟨xs, π2⟩ := r2
      rw [q2] at e
      cases e
      exact ⟨x, π1, xs, rfl, q2, rfl⟩
theorem eva_nil : EvA K tNil fNil := fun ρ π ds π' hf pa H0 F H σ Q w s q => by
  cases hf; exact q [] F H (.refl w) .nil
theorem eva_cons {tr : TA} (e : EvE K te f) (er : EvA K tr l) : EvA K (tCons te tr) (fCons f l) := fun ρ π ds π' hf pa H0 F H σ Q w s q => by
  obtain ⟨x, π1, xs, e1, e2, rfl⟩ := fCons_some hf
  refine e ρ π x π1 e1 pa H0 F H σ _ w s fun v F1 H1 p1 r1 => ?_
  exact er ρ π1 xs π' e2 pa H0 F1 H1 σ _ p1.wd (s.post w p1) fun vs F2 H2 p2 r2 => q (v :: vs) F2 H2 (p1.trans w p2) (.cons (r1.mono p2.ff) r2)
/-- a tuple's display (short enough) -/
def fTup (l : ML) : MX := fun ρ π => (l ρ π).bind fun (xs, π1) => if xs.length ≤ sizeLine then some (.tuple xs, π1) else none
def fLst (l : ML) : ML := fun ρ π => (l ρ π).bind fun (xs, π1) => if xs.length ≤ sizeLine then some (xs, π1) else none
theorem ev_tup {tr : TA} (er : EvA K tr l) : EvE K (tTup tr) (fTup l) := fun ρ π d π' hf pa H0 F H σ Q w s q => by
  unfold fTup at hf
  cases e1 : l ρ π with
  | none => rw [e1] at hf; cases hf
  | some r =>
    obtain ⟨xs, π1⟩ := r
    rw [e1] at hf
    simp only [Option.bind_some] at hf
    split at hf
    · rename_i hz
      cases hf
      refine er ρ π xs _ e1 pa H0 F H σ _ w s fun vs F1 H1 p1 r1 => ⟨by rw [r1.length]; exact hz, fun p np => ?_⟩
      have a1 := p1.wd.add (o := .tup vs) np
      exact q (.ref p) _ _ (p1.trans w a1) (.tup (.inl (.inl upd_same)) (r1.mono a1.ff))
    · cases hf
theorem ev_lst {tr : TA} (er : EvA K tr l) : EvN K (tLst tr) (fLst l) := fun ρ π d π' hf pa H0 F H σ Q w s q => by
  unfold fLst at hf
  cases e1 : l ρ π with
  | none => rw [e1] at hf; cases hf
  | some r =>
    obtain ⟨xs, π1⟩ := r
    rw [e1] at hf
    simp only [Option.bind_some] at hf
    split at hf
    · rename_i hz
      cases hf
      refine er ρ π d _ e1 pa H0 F H σ _ w s fun vs F1 H1 p1 r1 => ⟨by rw [r1.length]; exact hz, fun p np => ?_⟩
      have a1 := p1.wd.addM (o := .lst vs) np
      exact q p vs F1 _ (p1.trans w a1) (p1.fresh np) (p1.wd.free np) (p1.wd.pa_ne np) upd_same r1
    · cases hf
end
end DL

set_option maxHeartbeats 1000000
namespace DL
open PySem PySem.Spec PyProof.Rows L2
set_option autoImplicit false
section
variable {X : Cx} {K : PySem.W.Frag}

/-! #### + -/
def b2 (b : Bool) : Int := if b = true then 1 else 0
def gAdd : PyData → PyData → Option PyData
  | .int i, .int j => some (.int (i + j))
  | .bool a, .int j => some (.int (b2 a + j))
  | .int i, .bool b => some (.int (i + b2 b))
  | .str x, .str y => if x.length + y.length ≤ sizeLine then some (.str (x ++ y)) else none
  | .tuple xs, .tuple ys => if xs.length + ys.length ≤ sizeLine then some (.tuple (xs ++ ys)) else none
  | _, _ => none
abbrev rAddAll (K : PySem.W.Frag) : R2 := fun x y H Q => (∃ i j, x = .int i ∧ y = .int j ∧ Q (.int (i + j)) H) ∨ (∃ a j, x = .bl a ∧ y = .int j ∧ Q (.int (b2 a + j)) H) ∨
  (∃ i k, x = .int i ∧ y = .bl k ∧ Q (.int (i + b2 k)) H) ∨ (∃ i j, x = .str i ∧ y = .str j ∧ i.length + j.length ≤ sizeLine ∧ Q (.str (i ++ j)) H) ∨ rCatA K x y H Q
theorem op_add_bi : OpR X (binaryOp .Add) (fun x y H Q => ∃ a j, x = .bl a ∧ y = .int j ∧ Q (.int (b2 a + j)) H) := by
  intro pins s σ H x y v u Q I rx ry h
  obtain ⟨a, j, rfl, rfl, q⟩ := h
  cases rx
  obtain ⟨t, rfl⟩ := ry
  exact PySem.IntBool.add_bool_int ⟨.int (b2 a + j), H, I.tok _, ⟨_, rfl⟩, q⟩
theorem op_addAll : OpR X (binaryOp .Add) (rAddAll X.K) := OpR.or op_add (OpR.or op_add_bi (OpR.or op_add_ib (OpR.or op_add_str op_catA)))
theorem RpA.nil_iff {F : Hp} {vs : List V} {ds : List PyData} (r : RpA K F vs ds) : vs = [] ↔ ds = [] := by
  cases r with
  | nil => simp
  | cons _ _ => simp
theorem sim_add : Sim2 K (rAddAll K) gAdd := by
  intro pa F H π x y dx dy d Q w rx ry e q
  unfold gAdd at e
  split at e
  · cases e; exact .inl ⟨_, _, rx.int_inv, ry.int_inv, q _ F H (.refl w) (.int _)⟩
  · cases e; exact .inr (.inl ⟨_, _, rx.bool_inv, ry.int_inv, q _ F H (.refl w) (.int _)⟩)
  · cases e; exact .inr (.inr (.inl ⟨_, _, rx.int_inv, ry.bool_inv, q _ F H (.refl w) (.int _)⟩))
  · split at e
    · rename_i hz
      cases e; exact .inr (.inr (.inr (.inl ⟨_, _, rx.str_inv, ry.str_inv, hz, q _ F H (.refl w) (.str _)⟩)))
    · cases e
  · split at e
    · rename_i xs ys hz
      cases e
      obtain ⟨a, vs, rfl, ha, ra, fa⟩ := rx.tup_inv w
      obtain ⟨b, us, rfl, hb, rb, fb⟩ := ry.tup_inv w
      refine .inr (.inr (.inr (.inr ⟨a, b, vs, us, rfl, rfl, ha, hb, by rw [ra.length, rb.length]; exact hz, fun e0 => ?_, fun n0 e0 => ?_, fun n0 n1 p np => ?_⟩)))
      · have e1 := ra.nil_iff.mp e0
        subst e1
        exact q _ F H (.refl w) (.tup fb rb)
      · have e1 := rb.nil_iff.mp e0
        subst e1
        rw [List.append_nil] at q
        exact q _ F H (.refl w) (.tup fa ra)
      · have a1 := w.add (o := .tup (vs ++ us)) np
        exact q (.ref p) _ _ a1 (.tup (.inl (.inl upd_same)) ((ra.append rb).mono a1.ff))
    · cases e
  · cases e

/-! #### lists: +, * -/
def rCatL (K : PySem.W.Frag) : R2 := fun x y H Q => ∃ l b xs zs, x = .ref l ∧ y = .ref b ∧ SqL K H l xs ∧ SqL K H b zs ∧ xs.length + zs.length ≤ sizeLine ∧ ∀ p, H p = none → Q (.ref p) (upd H p (.lst (xs ++ zs)))
theorem op_catL : OpR X (binaryOp .Add) (rCatL X.K) := by
  intro pins s σ H x y v u Q I rx ry h
  obtain ⟨l, b, xs, zs, rfl, rfl, hH, hB, hz, q⟩ := h
  cases rx
  cases ry
  obtain ⟨its, r, ⟨⟨cls, dd, data, sl⟩, n, ho, hc, hd, hs⟩, _⟩ := I.list hH
  obtain ⟨its2, r2, ⟨⟨cls2, dd2, data2, sl2⟩, n2, ho2, hc2, hd2, hs2⟩, _⟩ := I.list hB
  simp only at hc hd hs hc2 hd2 hs2
  subst hc hd hs hc2 hd2 hs2
  have hl := r.length
  have hl2 := r2.length
  have ea : its.toArray ++ its2.toArray = (its ++ its2).toArray := by simp
  refine concat_meets ⟨_, ho, rfl⟩ ⟨_, ho2, rfl⟩ noFill_list_add seq_list_add PySem.F.slot_list_add PySem.F.entry_list_add (PySem.F.args_list_add_2 _ _)
    (list_addW l b its.toArray its2.toArray n n2 none none sl sl2 (by rw [List.size_toArray, List.size_toArray]; omega)) ⟨ho, ho2, ?_⟩
  rw [ea]
  exact ⟨.ref _, _, I.lnew (t' := s.toks) (r.append r2) (by rw [List.length_append]; omega), rfl, q _ I.fresh⟩
def gCatL : PyData → PyData → Option (List PyData)
  | .list xs, .list ys => if xs.length + ys.length ≤ sizeLine then some (xs ++ ys) else none
  | _, _ => none
theorem sim_catL : Sim2N K (rCatL K) gCatL := by
  intro pa F H π x y dx dy d Q w rx ry e q
  unfold gCatL at e
  split at e
  · split at e
    · rename_i xs ys hz
      cases e
      obtain ⟨a, vs, rfl, ha, ra⟩ := rx.lst_inv w
      obtain ⟨b, us, rfl, hb, rb⟩ := ry.lst_inv w
      refine ⟨a, b, vs, us, rfl, rfl, ha, hb, by rw [ra.length, rb.length]; exact hz, fun p np => ?_⟩
      exact q p (vs ++ us) F _ (w.addM np) np (w.free np) (w.pa_ne np) upd_same (ra.append rb)
    · cases e
  · cases e

/-! #### ints -/
def gSubI : PyData → PyData → Option PyData
  | .int i, .int j => some (.int (i - j))
  | .bool a, .int j => some (.int (b2 a - j))
  | _, _ => none
abbrev rSubAll : R2 := fun x y H Q => (∃ i j, x = .int i ∧ y = .int j ∧ Q (.int (i - j)) H) ∨ (∃ a j, x = .bl a ∧ y = .int j ∧ Q (.int (b2 a - j)) H)
theorem op_sub_bi : OpR X (binaryOp .Sub) (fun x y H Q => ∃ a j, x = .bl a ∧ y = .int j ∧ Q (.int (b2 a - j)) H) := by
  intro pins s σ H x y v u Q I rx ry h
  obtain ⟨a, j, rfl, rfl, q⟩ := h
  cases rx
  obtain ⟨t, rfl⟩ := ry
  exact PySem.IntBool.sub_bool_int ⟨.int (b2 a - j), H, I.tok _, ⟨_, rfl⟩, q⟩
theorem op_subAll : OpR X (binaryOp .Sub) rSubAll := OpR.or op_sub op_sub_bi
theorem sim_sub : Sim2 K rSubAll gSubI := by
  intro pa F H π x y dx dy d Q w rx ry e q
  unfold gSubI at e
  split at e
  · cases e; exact .inl ⟨_, _, rx.int_inv, ry.int_inv, q _ F H (.refl w) (.int _)⟩
  · cases e; exact .inr ⟨_, _, rx.bool_inv, ry.int_inv, q _ F H (.refl w) (.int _)⟩
  · cases e
/-- ints under a side condition -/
def gI (C : Int → Int → Bool) (f : Int → Int → Int) : PyData → PyData → Option PyData
  | .int i, .int j => if C i j = true then some (.int (f i j)) else none
  | _, _ => none
theorem sim_I {C' : Int → Int → Prop} {C : Int → Int → Bool} {f : Int → Int → Int} (hC : ∀ i j, C i j = true → C' i j) : Sim2 K (rI C' fun i j => .int (f i j)) (gI C f) := by
  intro pa F H π x y dx dy d Q w rx ry e q
  unfold gI at e
  split at e
  · split at e
    · rename_i hc
      cases e; exact ⟨_, _, rx.int_inv, ry.int_inv, hC _ _ hc, q _ F H (.refl w) (.int _)⟩
    · cases e
  · cases e
def cMul (i j : Int) : Bool := (decide (-(2 ^ 64) < i) && decide (i < 2 ^ 64)) || (decide (-(2 ^ 64) < j) && decide (j < 2 ^ 64))
theorem cMul_ok (i j : Int) (h : cMul i j = true) : CMul i j := by
  unfold cMul at h
  simp only [Bool.or_eq_true, Bool.and_eq_true, decide_eq_true_eq] at h
  exact h
def cDiv (_ j : Int) : Bool := decide (0 < j) && decide (j < 1073741824)
theorem cDiv_ok (i j : Int) (h : cDiv i j = true) : CDiv i j := by
  unfold cDiv at h
  simp only [Bool.and_eq_true, decide_eq_true_eq] at h
  exact h
def cMod (_ j : Int) : Bool := decide (0 < j)
def cPow (i j : Int) : Bool := decide (0 ≤ j) && decide (j ≤ 1000000) && decide (i.natAbs < 2 ^ 64)
theorem cPow_ok (i j : Int) (h : cPow i j = true) : CPow i j := by
  unfold cPow at h
  simp only [Bool.and_eq_true, decide_eq_true_eq] at h
  exact ⟨h.1.1, h.1.2, h.2⟩
def gMulI := gI cMul fun i j => i * j
def gDiv := gI cDiv fun i j => i / j
def gMod := gI cMod fun i j => i % j
def gPow := gI cPow fun i j => i ^ j.toNat
theorem sim_mulI : Sim2 K (rI CMul fun i j => .int (i * j)) gMulI := sim_I cMul_ok
theorem sim_div : Sim2 K (rI CDiv fun i j => .int (i / j)) gDiv := sim_I cDiv_ok
theorem sim_mod : Sim2 K (rI (fun _ j => 0 < j) fun i j => .int (i % j)) gMod := sim_I fun _ _ h => of_decide_eq_true h
theorem sim_pow : Sim2 K (rI CPow fun i j => .int (i ^ j.toNat)) gPow := sim_I cPow_ok
/-- tuple * int, (int * int) -/
def gMul : PyData → PyData → Option PyData
  | .int i, .int j => gMulI (.int i) (.int j)
  | .tuple xs, .int k => if xs ≠ [] ∧ 2 ≤ k ∧ k ≤ 1000 ∧ xs.length ≤ 1000 then some (.tuple (List.replicate k.toNat xs).flatten) else none
  | _, _ => none
theorem RpA.rep {F : Hp} {vs : List V} {ds : List PyData} (r : RpA K F vs ds) : ∀ n : Nat, RpA K F (List.replicate n vs).flatten (List.replicate n ds).flatten
  | 0 => .nil
  | n + 1 => by
    rw [List.replicate_succ, List.replicate_succ, List.flatten_cons, List.flatten_cons]
    exact r.append (RpA.rep r n)
theorem op_mulAll : OpR X (binaryOp .Mult) (fun x y H Q => rI CMul (fun i j => .int (i * j)) x y H Q ∨ rRepT X.K x y H Q) := OpR.or op_mul op_repT
theorem sim_mul : Sim2 K (fun x y H Q => rI CMul (fun i j => .int (i * j)) x y H Q ∨ rRepT K x y H Q) gMul := by
  intro pa F H π x y dx dy d Q w rx ry e q
  unfold gMul at e
  split at e
  · exact .inl (sim_mulI pa F H π x y _ _ d Q w rx ry e q)
  · split at e
    · rename_i xs k hz
      cases e
      obtain ⟨a, vs, rfl, ha, ra, fa⟩ := rx.tup_inv w
      obtain ⟨h1, h2, h3, h4⟩ := hz
      refine .inr ⟨a, k, vs, rfl, ry.int_inv, ha, fun z => h1 (ra.nil_iff.mp z), h2, h3, by rw [ra.length]; exact h4, fun p np => ?_⟩
      have a1 := w.add (o := .tup (List.replicate k.toNat vs).flatten) np
      exact q (.ref p) _ _ a1 (.tup (.inl (.inl upd_same)) ((ra.rep _).mono a1.ff))
    · cases e
  · cases e
/-- comparisons of ints -/
def gCmp (p : Int → Int → Bool) : PyData → PyData → Option PyData
  | .int i, .int j => some (.bool (p i j))
  | _, _ => none
theorem sim_cmp (p : Int → Int → Bool) : Sim2 K (rI0 fun i j => .bl (p i j)) (gCmp p) := by
  intro pa F H π x y dx dy d Q w rx ry e q
  unfold gCmp at e
  split at e
  · cases e; exact ⟨_, _, rx.int_inv, ry.int_inv, q _ F H (.refl w) (.bl _)⟩
  · cases e
def gLt := gCmp fun i j => decide (i < j)
def gLe := gCmp fun i j => decide (i ≤ j)
def gGt := gCmp fun i j => decide (j < i)
def gGe := gCmp fun i j => decide (j ≤ i)
def gNeg : PyData → Option PyData
  | .int i => some (.int (-i))
  | _ => none
theorem sim_neg : Sim1 K (rU fun i => .int (-i)) gNeg := by
  intro pa F H π x dx d Q w rx e q
  unfold gNeg at e
  split at e
  · cases e; exact ⟨_, rx.int_inv, q _ F H (.refl w) (.int _)⟩
  · cases e

/-! #### is None -/
def isNone : PyData → Bool
  | .none => true
  | _ => false
def gIsN (neg : Bool) : PyData → PyData → Option PyData
  | x, .none => some (.bool (if neg = true then !isNone x else isNone x))
  | _, _ => none
theorem isNone_of {pa : Option Addr} {F H : Hp} {x : V} {dx : PyData} (rx : RpX K pa F H x dx) : decide (x = V.non) = isNone dx := by
  rcases rx with h | ⟨a, vs, ds, rfl, rfl, _⟩
  · cases h <;> rfl
  · rfl
theorem sim_isN : Sim2 K (fun x y H Q => y = .non ∧ Q (.bl (decide (x = .non))) H) (gIsN false) := by
  intro pa F H π x y dx dy d Q w rx ry e q
  unfold gIsN at e
  split at e
  · cases e
    refine ⟨ry.non_inv, ?_⟩
    rw [isNone_of rx]
    exact q _ F H (.refl w) (.bl _)
  · cases e
theorem sim_notN : Sim2 K (fun x y H Q => y = .non ∧ Q (.bl (!decide (x = .non))) H) (gIsN true) := by
  intro pa F H π x y dx dy d Q w rx ry e q
  unfold gIsN at e
  split at e
  · cases e
    refine ⟨ry.non_inv, ?_⟩
    rw [isNone_of rx]
    exact q _ F H (.refl w) (.bl _)
  · cases e

theorem k_ne_sys {pins : List (Addr × Obj)} {σ : St} {H F : Hp} {s : Shared} {pa : Option Addr} {π : Pt} (I : Inv X pins σ H s) (w : Wd pa F H π) {a : Addr} {o : Obj} (h : X.K.lookup a = some o) : a ≠ sysModules := fun e => by
  subst e
  obtain ⟨u, q, _⟩ := w.sys
  have z := (I.bs _ _ (I.ok.mod.kin _ _ h)).2
  rw [z] at q
  cases q
theorem f_ne_sys {H F : Hp} {pa : Option Addr} {π : Pt} (w : Wd pa F H π) {a : Addr} {xs : List V} (h : Rd H a (.lst xs)) : a ≠ sysModules := by
  rcases h with h | ⟨o, h⟩
  · exact w.sys_ne h fun ⟨_, z⟩ => by cases z
  · exact w.sys_ne h fun ⟨_, z⟩ => by cases z
theorem l_ne_sys {pins : List (Addr × Obj)} {σ : St} {H F : Hp} {s : Shared} {pa : Option Addr} {π : Pt} (I : Inv X pins σ H s) (w : Wd pa F H π) {a : Addr} {xs : List V} (h : SqL X.K H a xs) : a ≠ sysModules := by
  rcases h with h | ⟨o, its, n, h, _⟩
  · exact f_ne_sys w h
  · exact k_ne_sys I w h
mutual
theorem Rp.reads {pins : List (Addr × Obj)} {σ : St} {H F : Hp} {s : Shared} {pa : Option Addr} {π : Pt} (I : Inv X pins σ H s) (w : Wd pa F H π) : ∀ (d : PyData) (v : V) (u : Value), Rp X.K F v d → RelV v u → ∃ as, Reads s.heap u d as ∧ sysModules ∉ as
  | .none, _, _, h, r => by
    cases h
    cases r
    exact ⟨_, Reads.none, by simp⟩
  | .bool b, _, _, h, r => by
    cases h
    cases r
    exact ⟨_, Reads.bool b, by simp⟩
  | .int i, _, _, h, r => by
    cases h
    obtain ⟨t, rfl⟩ := r
    exact ⟨_, Reads.int i t, by simp⟩
  | .str x, _, _, h, r => by
    cases h
    obtain ⟨t, rfl⟩ := r
    exact ⟨_, Reads.str x t, by simp⟩
  | .list ds, _, _, h, r => by
    cases h with
    | lst hs ha =>
      cases r
      have hs' := w.same.seq hs
      obtain ⟨its, rv, ⟨o, n, ho, hc, _, hd⟩, _⟩ := I.list hs'
      obtain ⟨as, hr, hn⟩ := Rp.readsAll I w ds _ its ha rv
      refine ⟨_, Reads.list ho hc hd hr, fun z => ?_⟩
      rcases List.mem_cons.mp z with z | z
      · exact l_ne_sys I w hs' z.symm
      · exact hn z
  | .tuple ds, _, _, h, r => by
    cases h with
    | tup hs ha =>
      cases r
      obtain ⟨its, rv, ⟨o, ho, hc, n, hd⟩, _⟩ := I.tuple (seqT_mono w.same hs)
      obtain ⟨as, hr, hn⟩ := Rp.readsAll I w ds _ its ha rv
      exact ⟨_, Reads.tuple ho hc hd hr, hn⟩
  | .dict [], _, _, h, r => by
    cases h with
    | @dct a hs =>
      cases r
      have hs' := w.same _ _ hs
      have hne : a ≠ sysModules := w.sys_ne hs' fun ⟨_, z⟩ => by cases z
      obtain ⟨_, _, vs, hkv, o, es, ep, ho, hc, hd, _, hk, _⟩ := I.hok _ _ hs'
      cases hkv
      have he : es.toList = [] := by
        generalize es.toList = l at hk
        cases hk
        rfl
      refine ⟨_, Reads.dict (kvs := []) (as := []) (bs := []) ho hc.1 hd (by rw [he]; exact ReadsAll.nil) (by rw [he]; exact ReadsAll.nil), fun z => ?_⟩
      have z' : sysModules = a := by simpa using z
      exact hne z'.symm
  | .dict (_ :: _), _, _, h, _ => by cases h
theorem Rp.readsAll {pins : List (Addr × Obj)} {σ : St} {H F : Hp} {s : Shared} {pa : Option Addr} {π : Pt} (I : Inv X pins σ H s) (w : Wd pa F H π) : ∀ (ds : List PyData) (vs : List V) (us : List Value), RpA X.K F vs ds → Vals vs us → ∃ as, ReadsAll s.heap us ds as ∧ sysModules ∉ as
  | [], _, _, h, r => by
    cases h
    cases r
    exact ⟨_, ReadsAll.nil, by simp⟩
  | d :: ds, _, _, h, r => by
    cases h with
    | cons h1 h2 =>
      cases r with
      | cons r1 r2 =>
        obtain ⟨as, q1, n1⟩ := Rp.reads I w d _ _ h1 r1
        obtain ⟨bs, q2, n2⟩ := Rp.readsAll I w ds _ _ h2 r2
        exact ⟨_, ReadsAll.cons q1 q2, fun z => (List.mem_append.mp z).elim n1 n2⟩
end
theorem RpX.reads {pins : List (Addr × Obj)} {σ : St} {H F : Hp} {s : Shared} {pa : Option Addr} {π : Pt} (I : Inv X pins σ H s) (w : Wd pa F H π) {d : PyData} {v : V} {u : Value} (h : RpX X.K pa F H v d) (r : RelV v u) : ∃ as, Reads s.heap u d as ∧ sysModules ∉ as := by
  rcases h with h | ⟨a, vs, ds, rfl, rfl, h1, h2, h3, h4⟩
  · exact Rp.reads I w d v u h r
  · cases r
    obtain ⟨its, rv, ⟨o, n, ho, hc, _, hd⟩, _⟩ := I.list (SqL.of h3)
    obtain ⟨as, hr, hn⟩ := Rp.readsAll I w ds _ its h4 rv
    refine ⟨_, Reads.list ho hc hd hr, fun z => ?_⟩
    rcases List.mem_cons.mp z with z | z
    · exact f_ne_sys w (.inl h3) z.symm
    · exact hn z

def rEqX (K : PySem.W.Frag) (neg : Bool) : R2 := fun x y H Q => ∃ pa F π d e, Wd pa F H π ∧ RpX K pa F H x d ∧ RpX K pa F H y e ∧ SeqAt.shaped d = true ∧ SeqAt.shaped e = true ∧ Q (.bl (if neg = true then !PyData.eqv d e else PyData.eqv d e)) H
theorem op_eqX (hu : X.A.units + 64 < cLine) : OpR X (compareOp .Eq) (rEqX X.K false) := by
  intro pins s σ H x y v u Q I rx ry h
  obtain ⟨pa, F, π, d, e, w, hd, he, sd, se, q⟩ := h
  obtain ⟨as, r1, _⟩ := hd.reads I w rx
  obtain ⟨bs, r2, _⟩ := he.reads I w ry
  exact SeqAt.compareEq_shaped r1 r2 sd se hu ⟨.bl _, H, I, rfl, q⟩
theorem op_neX (hu : X.A.units + 64 < cLine) : OpR X (compareOp .NotEq) (rEqX X.K true) := by
  intro pins s σ H x y v u Q I rx ry h
  obtain ⟨pa, F, π, d, e, w, hd, he, sd, se, q⟩ := h
  obtain ⟨as, r1, _⟩ := hd.reads I w rx
  obtain ⟨bs, r2, _⟩ := he.reads I w ry
  exact SeqAt.compareNe_shaped r1 r2 sd se hu ⟨.bl _, H, I, rfl, q⟩
def rEqS (neg : Bool) : R2 := fun x y H Q => scal x y = true ∧ Q (.bl (if neg = true then !decide (x = y) else decide (x = y))) H
def rEqY (K : PySem.W.Frag) (neg : Bool) : R2 := fun x y H Q => rEqS neg x y H Q ∨ rEqX K neg x y H Q
theorem op_eqY (hu : X.A.units + 64 < cLine) : OpR X (compareOp .Eq) (rEqY X.K false) := OpR.or (show OpR X (compareOp .Eq) (rEqS false) from op_eq) (op_eqX hu)
theorem op_neY (hu : X.A.units + 64 < cLine) : OpR X (compareOp .NotEq) (rEqY X.K true) := OpR.or (show OpR X (compareOp .NotEq) (rEqS true) from op_ne) (op_neX hu)
def gEq (neg : Bool) : PyData → PyData → Option PyData
  | .str x, .str y => some (.bool (if neg = true then !decide (x = y) else decide (x = y)))
  | .int x, .int y => some (.bool (if neg = true then !decide (x = y) else decide (x = y)))
  | d, e => if SeqAt.shaped d = true ∧ SeqAt.shaped e = true then some (.bool (if neg = true then !PyData.eqv d e else PyData.eqv d e)) else none
theorem sim_eq (neg : Bool) : Sim2 K (rEqY K neg) (gEq neg) := by
  intro pa F H π x y dx dy d Q w rx ry e q
  unfold gEq at e
  split at e
  · rename_i z t
    cases e
    refine .inl ⟨by rw [rx.str_inv, ry.str_inv]; rfl, ?_⟩
    rw [rx.str_inv, ry.str_inv]
    have e1 : decide (V.str z = V.str t) = decide (z = t) := by simp
    rw [e1]
    exact q _ F H (.refl w) (.bl _)
  · rename_i z t
    cases e
    refine .inl ⟨by rw [rx.int_inv, ry.int_inv]; rfl, ?_⟩
    rw [rx.int_inv, ry.int_inv]
    have e1 : decide (V.int z = V.int t) = decide (z = t) := by simp
    rw [e1]
    exact q _ F H (.refl w) (.bl _)
  · split at e
    · rename_i hz
      cases e
      exact .inr ⟨pa, F, π, dx, dy, w, rx, ry, hz.1, hz.2, q _ F H (.refl w) (.bl _)⟩
    · cases e

/-! #### in -/
def flatD : PyData → Bool
  | .none => true
  | .bool _ => true
  | .int _ => true
  | .str _ => true
  | _ => false
def vOf : PyData → V
  | .none => .non
  | .bool b => .bl b
  | .int i => .int i
  | .str x => .str x
  | _ => .non
theorem vOf_flat {F : Hp} {v : V} {d : PyData} (h : Rp K F v d) (f : flatD d = true) : v = vOf d := by
  cases h <;> first | rfl | cases f
theorem flatV_of (d : PyData) : flatV (vOf d) = true := by cases d <;> rfl
theorem vsOf_flat {F : Hp} : ∀ {vs : List V} {ds : List PyData}, RpA K F vs ds → ds.all flatD = true → vs = ds.map vOf
  | _, _, .nil, _ => rfl
  | _, _, .cons r t, f => by
    rw [List.all_cons, Bool.and_eq_true] at f
    rw [vOf_flat r f.1, vsOf_flat t f.2]
    rfl
def inD (d : PyData) (ds : List PyData) : Bool := inV (vOf d) (ds.map vOf)
/-- a sign (or any text) in a text -/
def inS (x y : Str) : Bool := match x.cps.toList with
  | [c] => decide (c ∈ y.cps.toList)
  | _ => !(Builtin.Str.occurrences y x 0 y.length 1).isEmpty
def gIn (neg : Bool) : PyData → PyData → Option PyData
  | .str x, .str y => some (.bool (if neg = true then !inS x y else inS x y))
  | x, .list ys => if flatD x = true ∧ ys.all flatD = true then some (.bool (if neg = true then !inD x ys else inD x ys)) else none
  | x, .tuple ys => if flatD x = true ∧ ys.all flatD = true then some (.bool (if neg = true then !inD x ys else inD x ys)) else none
  | _, _ => none
theorem inS_eq (x y : Str) : (!(Builtin.Str.occurrences y x 0 y.length 1).isEmpty) = inS x y := by
  unfold inS
  split
  · rename_i c e
    have ex : x = ⟨#[c]⟩ := by
      obtain ⟨⟨l⟩⟩ := x
      have e' : l = [c] := e
      rw [e']
    rw [ex]
    exact PySem.StrLaws.found_one y c
  · rfl
theorem op_inAll : OpR X (compareOp .In) (fun x y H Q => (∃ i j, x = .str i ∧ y = .str j ∧ Q (.bl (!(Builtin.Str.occurrences j i 0 j.length 1).isEmpty)) H) ∨ rIn X.K false x y H Q) := OpR.or op_in_str op_in_seq
theorem op_notInAll : OpR X (compareOp .NotIn) (fun x y H Q => (∃ i j, x = .str i ∧ y = .str j ∧ Q (.bl (!(!(Builtin.Str.occurrences j i 0 j.length 1).isEmpty))) H) ∨ rIn X.K true x y H Q) := OpR.or L2.op_notIn_str op_notIn_seq
theorem flat_x {pa : Option Addr} {F H : Hp} {x : V} {dx : PyData} (rx : RpX K pa F H x dx) (f : flatD dx = true) : x = vOf dx := by
  rcases rx with h | ⟨a, vs, ds, rfl, rfl, _⟩
  · exact vOf_flat h f
  · cases f
theorem all_flatV : ∀ ds : List PyData, (ds.map vOf).all flatV = true
  | [] => rfl
  | d :: ds => by rw [List.map_cons, List.all_cons, flatV_of, all_flatV ds]; rfl
theorem sim_in : Sim2 K (fun x y H Q => (∃ i j, x = .str i ∧ y = .str j ∧ Q (.bl (!(Builtin.Str.occurrences j i 0 j.length 1).isEmpty)) H) ∨ rIn K false x y H Q) (gIn false) := by
  intro pa F H π x y dx dy d Q w rx ry e q
  unfold gIn at e
  split at e
  · rename_i i j
    cases e
    refine .inl ⟨i, j, rx.str_inv, ry.str_inv, ?_⟩
    rw [inS_eq]
    exact q _ F H (.refl w) (.bl _)
  · split at e
    · rename_i ys hz
      cases e
      obtain ⟨b, us, rfl, hb, rb⟩ := ry.lst_inv w
      have e1 := flat_x rx hz.1
      have e2 := vsOf_flat rb hz.2
      subst e1 e2
      exact .inr ⟨b, _, rfl, .inl hb, flatV_of _, all_flatV _, q _ F H (.refl w) (.bl _)⟩
    · cases e
  · split at e
    · rename_i ys hz
      cases e
      obtain ⟨b, us, rfl, hb, rb, _⟩ := ry.tup_inv w
      have e1 := flat_x rx hz.1
      have e2 := vsOf_flat rb hz.2
      subst e1 e2
      exact .inr ⟨b, _, rfl, .inr hb, flatV_of _, all_flatV _, q _ F H (.refl w) (.bl _)⟩
    · cases e
  · cases e
theorem sim_notIn : Sim2 K (fun x y H Q => (∃ i j, x = .str i ∧ y = .str j ∧ Q (.bl (!(!(Builtin.Str.occurrences j i 0 j.length 1).isEmpty))) H) ∨ rIn K true x y H Q) (gIn true) := by
  intro pa F H π x y dx dy d Q w rx ry e q
  unfold gIn at e
  split at e
  · rename_i i j
    cases e
    refine .inl ⟨i, j, rx.str_inv, ry.str_inv, ?_⟩
    rw [inS_eq]
    exact q _ F H (.refl w) (.bl _)
  · split at e
    · rename_i ys hz
      cases e
      obtain ⟨b, us, rfl, hb, rb⟩ := ry.lst_inv w
      have e1 := flat_x rx hz.1
      have e2 := vsOf_flat rb hz.2
      subst e1 e2
      exact .inr ⟨b, _, rfl, .inl hb, flatV_of _, all_flatV _, q _ F H (.refl w) (.bl _)⟩
    · cases e
  · split at e
    · rename_i ys hz
      cases e
      obtain ⟨b, us, rfl, hb, rb, _⟩ := ry.tup_inv w
      have e1 := flat_x rx hz.1
      have e2 := vsOf_flat rb hz.2
      subst e1 e2
      exact .inr ⟨b, _, rfl, .inr hb, flatV_of _, all_flatV _, q _ F H (.refl w) (.bl _)⟩
    · cases e
  · cases e

def gIx : PyData → PyData → Option PyData
  | .list xs, .int i => atI xs i
  | .tuple xs, .int i => atI xs i
  | .str z, .int i => if z.length ≤ sizeLine then (atI z.cps.toList i).map fun c => .str ⟨#[c]⟩ else none
  | _, _ => none
theorem RpA.atI {F : Hp} {vs : List V} {ds : List PyData} {i : Int} {d : PyData} (r : RpA K F vs ds) (e : L2.atI ds i = some d) : ∃ v, L2.atI vs i = some v ∧ Rp K F v d := by
  unfold L2.atI at e ⊢
  rw [r.length]
  cases q : ixN ds.length i with
  | none => rw [q] at e; cases e
  | some j =>
    rw [q] at e
    exact r.get e
theorem sim_ix : Sim2 K (rIx K) gIx := by
  intro pa F H π x y dx dy d Q w rx ry e q
  unfold gIx at e
  split at e
  · obtain ⟨b, us, rfl, hb, rb⟩ := rx.lst_inv w
    obtain ⟨v, e1, r1⟩ := rb.atI e
    exact .inl ⟨b, us, _, v, rfl, ry.int_inv, hb, e1, q v F H (.refl w) r1⟩
  · obtain ⟨b, us, rfl, hb, rb, _⟩ := rx.tup_inv w
    obtain ⟨v, e1, r1⟩ := rb.atI e
    exact .inr (.inl ⟨b, us, _, v, rfl, ry.int_inv, hb, e1, q v F H (.refl w) r1⟩)
  · split at e
    · rename_i z i hz
      cases q1 : L2.atI z.cps.toList i with
      | none => rw [q1] at e; cases e
      | some c =>
        rw [q1] at e
        cases e
        exact .inr (.inr ⟨z, i, c, rx.str_inv, ry.int_inv, hz, q1, q _ F H (.refl w) (.str _)⟩)
    · cases e
  · cases e
def cutD (xs : List PyData) (lo hi : Option Int) : List PyData := (xs.drop (HT.sIx xs.length 0 lo)).take (HT.sIx xs.length xs.length hi - HT.sIx xs.length 0 lo)
theorem RpA.cut {F : Hp} {vs : List V} {ds : List PyData} (r : RpA K F vs ds) (lo hi : Option Int) : RpA K F (cutV vs lo hi) (cutD ds lo hi) := by
  unfold cutV cutD
  rw [r.length]
  exact (r.drop _).take _
def gLen : PyData → Option PyData
  | .list xs => some (.int xs.length)
  | .tuple xs => some (.int xs.length)
  | .str z => if z.length ≤ sizeLine then some (.int z.length) else none
  | _ => none
theorem sim_len : SimC1 K (fun xs H Q => ∃ x n, xs = [x] ∧ LenV K x H n ∧ Q (.int n) H) gLen := by
  intro pa F H π x dx d Q w rx e q
  unfold gLen at e
  split at e
  · cases e
    obtain ⟨b, us, rfl, hb, rb⟩ := rx.lst_inv w
    exact ⟨_, us.length, rfl, .inl ⟨us, hb, rfl⟩, by rw [rb.length]; exact q _ F H (.refl w) (.int _)⟩
  · cases e
    obtain ⟨b, us, rfl, hb, rb, _⟩ := rx.tup_inv w
    exact ⟨_, us.length, rfl, .inr ⟨us, hb, rfl⟩, by rw [rb.length]; exact q _ F H (.refl w) (.int _)⟩
  · split at e
    · rename_i z hz
      cases e
      have ez := rx.str_inv
      subst ez
      exact ⟨_, z.length, rfl, ⟨hz, rfl⟩, q _ F H (.refl w) (.int _)⟩
    · cases e
  · cases e
end
end DL

set_option maxHeartbeats 1000000
namespace DL
open PySem PySem.Spec PyProof.Rows L2
open Sem (wp)
open AutoSeq1 (wpAny_loadPart')
set_option autoImplicit false

theorem meets_enum_tup (l : Addr) (items : Array Value) (n : Nat) (dct : Option Addr) (sl : Array (Option Value)) :
    Meets (Builtin.«enumerate.__new__» ⟨[.type "enumerate", .ref l], []⟩) (fun _ R s => s.heap.get? l = some { cls := .type "tuple", dict := dct, data := .seq items n, slots := sl } ∧
      R (.ok (.ret (.ref (s.heap.push { cls := .type "tuple_iterator", data := .fields #[.ref l, .int 0 0] }).objs.size)))
        { s with heap := (s.heap.push { cls := .type "tuple_iterator", data := .fields #[.ref l, .int 0 0] }).push { cls := .type "enumerate", data := .fields #[.none, .bool false, .ref s.heap.objs.size, rawInt 0, .none, .none] } }) :=
  .of_wp fun prog w A R s h => by
    obtain ⟨hp, g, d, tk, os⟩ := s
    obtain ⟨hl, h⟩ := h
    have hsub := sub_enumerate
    have hT : Heap.IsTuple (Shared.heap ⟨hp, g, d, tk, os⟩) l items := ⟨_, hl, rfl, n, rfl⟩
    wp_walk using wpAny_loadPart' hl
    refine wpAny_stack_any fun st => wpAny_pure ?_
    split
    · rename_i c _ _ _ _ _
      cases (c == Value.type "enumerate")
      · wp_walk using wpAny_loadPart' hl, wpAny_pyIter_tuple hT
        exact ⟨_, rfl, h⟩
      · wp_walk using wpAny_loadPart' hl, wpAny_pyIter_tuple hT
        exact ⟨_, rfl, h⟩
    · wp_walk using wpAny_loadPart' hl, wpAny_pyIter_tuple hT
      exact ⟨_, rfl, h⟩

theorem call_enum_tup {prog : Program} {w : World} {A : Around} {E : Value → Shared → Prop} {s : Shared} {l : Addr} {items : Array Value} {Q : Value → Shared → Prop} (hL : s.heap.IsTuple l items)
    (h : ∀ h', IsEnum h' (s.heap.objs.size + 1) s.heap.objs.size 0 .none → h'.IsTupleIter s.heap.objs.size l 0 → h'.objs.size = s.heap.objs.size + 2 →
      (∀ b o, s.heap.get? b = some o → h'.get? b = some o) → Q (.ref (s.heap.objs.size + 1)) { s with heap := h' }) :
    wpAny (model prog w) A (call (.type "enumerate") [.ref l]) Q E s := by
  obtain ⟨⟨c, dct, dt, sl⟩, hl, hc, n, hd⟩ := hL
  simp only at hc hd
  subst hc hd
  refine callType_new F.called_enumerate (by decide) (F.typeCall_enumerate_1 _) (F.newCall_enumerate_1 _) (fun obj => F.args_object_init_2 obj _) F.entry_enumerate_new
    (meets_enum_tup l items n dct sl) ⟨hl, ?_⟩
  have hz : (s.heap.push { cls := .type "tuple_iterator", data := .fields #[.ref l, .int 0 0] }).objs.size = s.heap.objs.size + 1 := Heap.size_push ..
  show _ ∧ _
  rw [hz]
  have he : IsEnum ((s.heap.push { cls := .type "tuple_iterator", data := .fields #[.ref l, .int 0 0] }).push
      { cls := .type "enumerate", data := .fields #[.none, .bool false, .ref s.heap.objs.size, rawInt 0, .none, .none] }) (s.heap.objs.size + 1) s.heap.objs.size 0 .none := by
    have := Heap.get?_push_size (s.heap.push { cls := .type "tuple_iterator", data := .fields #[.ref l, .int 0 0] })
      (o := { cls := .type "enumerate", data := .fields #[.none, .bool false, .ref s.heap.objs.size, rawInt 0, .none, .none] }) rfl
    rw [hz] at this
    exact this
  exact ⟨⟨_, he, rfl⟩, h _ he ⟨_, Heap.get?_push_of_some _ (Heap.get?_push_size _ rfl), rfl, rfl⟩ (by rw [Heap.size_push, hz]) fun b o x => Heap.get?_push_of_some _ (Heap.get?_push_of_some _ x)⟩

theorem enum_endT {prog : Program} {w : World} {A : Around} {E : Value → Shared → Prop} {s : Shared} {e it l : Addr} {i : Nat} {k : Int} {items : Array Value} {old : Value} {Q : Option Value → Shared → Prop} (hh : A.handled = none)
    (he : IsEnum s.heap e it k old) (hit : s.heap.IsTupleIter it l i) (hl : s.heap.IsTuple l items) (hx : items.size ≤ i)
    (hQ : ∀ h', Heap.ExtBut it s.heap h' → Q none { s with heap := h' }) : wpAny (model prog w) A (pyNext (.ref e)) Q E s := by
  have hT : s.TypeIs (.ref e) "enumerate" := ⟨_, he, rfl⟩
  unfold pyNext
  refine wpAny_bind (wpAny_attempt (wpAny_callSpecial?_slot (name := Str.ofString "__next__") hT F.slot_enumerate_next
    (wpAny_call_entry F.slot_enumerate_next hT F.entry_enumerate_next ?_ (F.args_enumerate_next_1 _))))
  show wpAny _ _ (field (.ref e) 2 >>= _) _ _ _
  refine wpAny_bind (wpAny_field he rfl (x := .ref it) rfl (wpAny_bind (wpAny_nextOf_tuple_end hh hit hl (Array.getElem?_eq_none hx) fun h' x he' hx' => ?_)))
  obtain ⟨o, ho, hc⟩ := hx'
  exact wpAny_bind (wpAny_isInstance (T := "StopIteration") (b := true) ⟨o, ho, hc⟩ isSubtype_stop (wpAny_pure (hQ _ he')))

/-- the tuple at a, its items numbered, in new pairs -/
def IteT (K : PySem.W.Frag) (a : Addr) : It :=
  ⟨fun i H => ∃ (xs : List V) (x : V), SqT K H a xs ∧ xs[i]? = some x, fun i H v H' => ∃ T x, v = .ref T ∧ H T = none ∧ H' = upd H T (.tup [.int (i : Nat), x]) ∧ ∀ xs, SqT K H a xs → xs[i]? = some x, fun i H => ∃ xs : List V, SqT K H a xs ∧ xs.length ≤ i⟩
theorem turn_enumT {P : Program} {w : World} {K : PySem.W.Frag} {elts : List Expr} {kk : Nat} {tpos : Pos} (a e it : Addr) (hae : a ≠ e) (hai : a ≠ it) :
    Turn P w K (.Tuple elts kk tpos) (IteT K a) [e, it] e (fun i h => (∃ old, IsEnum h e it ((i : Nat) : Int) old) ∧ h.IsTupleIter it a i ∧ e ≠ it) where
  mem := by simp
  obj := fun i h st b hb => by
    obtain ⟨⟨old, he⟩, ⟨o, ho, hc, hd⟩, _⟩ := st
    have e' : b = e ∨ b = it := by simpa using hb
    rcases e' with z | z
    · rw [z]; exact ⟨_, he, fun v q => nomatch q⟩
    · rw [z]; exact ⟨o, ho, fun v q => by rw [hd] at q; cases q⟩
  keep := fun i h h' st k => let ⟨⟨old, he⟩, hi, hne⟩ := st; ⟨⟨old, k e (by simp) _ he⟩, hi.at fun o q => k it (by simp) o q, hne⟩
  item := by
    intro X hP hw hK hc i pins s σ H E I hf st hg
    subst hP hw hK
    obtain ⟨⟨old, he⟩, hit, hne⟩ := st
    obtain ⟨xs, x, hq, hx⟩ := hg
    obtain ⟨its, rv, p, hz⟩ := I.tuple hq
    obtain ⟨u, hu, ru⟩ := rv.get hx
    have hel : e < s.heap.objs.size := Heap.lt_size he
    have hil : it < s.heap.objs.size := by obtain ⟨_, q, _⟩ := hit; exact Heap.lt_size q
    have ht : s.heap.IsTuple a its.toArray := p
    have hlt : i < its.toArray.size := by
      rw [List.size_toArray]
      exact (List.getElem?_eq_some_iff.mp hu).1
    refine wpAny_pyNext_enum_itemD (Draws.tuple (prog := X.prog) (w := X.w) (A := X.A.in1) (I.ok.hd hc) it a hai its.toArray) he ⟨hit, ht⟩ hlt hne (fun z => ?_) fun y h' tk hy ho hst hT hsz hk => ?_
    · have z' : e = it ∨ e = a := by simpa using z
      exact z'.elim hne (Ne.symm hae)
    · have ey : y = u := by
        have q1 : its.toArray[i]? = some u := by simpa using hu
        exact Option.some.inj (hy.symm.trans q1)
      subst ey
      refine ⟨_, rfl, wpAny_letOwnedTupleGo_enum (s := { s with heap := h', toks := tk + 1 }) ho fun h'' he' sb => ?_⟩
      have hT2 : h''.get? s.heap.objs.size = some { cls := .type "tuple", data := .seq #[.int i tk, y] } := (sb.2 _ (Nat.ne_of_gt hel)).trans hT
      have new : ObjOk X.prog X.w (upd H s.heap.objs.size (.tup [.int (i : Nat), x])) h'' s.heap.objs.size (.tup [.int (i : Nat), x]) :=
        ⟨by show 2 ≤ sizeLine; decide, [.int i tk, y], .cons ⟨_, rfl⟩ (.cons ru .nil), ⟨_, hT2, rfl, _, rfl⟩⟩
      have I1 : Inv X pins σ (upd H s.heap.objs.size (.tup [.int (i : Nat), x])) { s with heap := h'', toks := tk + 1 } :=
        I.turnedNew (ch := [e, it]) (fun b ob hb q => (sb.2 b (fun z => hb (by simp [z]))).trans (hk b ob (fun z => hb (by simp [z])) (fun z => hb (by simp [z])) q)) hf (Nat.le_refl _) new
      refine ⟨.ref s.heap.objs.size, _, I1, rfl, ⟨_, x, rfl, I.hok.fresh (Nat.le_refl _), rfl, fun ys hy => by rw [I.tuple_inj hy hq]; exact hx⟩, ⟨⟨y, ?_⟩, hst.1.at fun o q => (sb.2 it (Ne.symm hne)).trans q, hne⟩, fun b hb => ?_⟩
      · have e1 : ((i + 1 : Nat) : Int) = (i : Int) + 1 := by omega
        rw [e1]; exact he'
      · have hb' : b < s.heap.objs.size := by
          have e' : b = e ∨ b = it := by simpa using hb
          rcases e' with z | z
          · rw [z]; exact hel
          · rw [z]; exact hil
        rw [upd_ne (Nat.ne_of_lt hb')]
        exact (hf b hb).1
  done := by
    intro X hP hw hK hc i pins s σ H E I hf st hg
    subst hP hw hK
    obtain ⟨⟨old, he⟩, hit, hne⟩ := st
    obtain ⟨xs, hq, hx⟩ := hg
    obtain ⟨its, rv, p, hz⟩ := I.tuple hq
    obtain ⟨f0, f1, f2, f3, f4, f5⟩ := hf it (by simp)
    have hl := rv.length
    have ht : s.heap.IsTuple a its.toArray := p
    have hle : its.toArray.size ≤ i := by rw [List.size_toArray]; omega
    refine enum_endT (I.ok.hd hc) he hit ht hle fun h' eb => ⟨rfl, I.turned (t' := s.toks) (fun b o hb q => eb b o hb q) f0 f1 f3 f4 f5⟩
  self := fun A i s Q E st h => let ⟨⟨_, he⟩, _⟩ := st; wpAny_pyIter_enum he h
def iEnumA (K : PySem.W.Frag) (ta : TA) : TI := fun σ H R => ta σ H fun vs H1 => ∃ a xs, vs = [.ref a] ∧ ((SqL K H1 a xs ∧ R (Ite K a) H1) ∨ (SqT K H1 a xs ∧ R (IteT K a) H1))
theorem pi_enumA {X : Cx} {e : Expr} {ta : TA} {p pos tpos : Pos} {elts : List Expr} {kk : Nat} (hg : Gl X "enumerate") (hm : X.mg "enumerate" = none) (ha : PA X [e] ta) (hs : starEach [e] X.env = [(false, eval e X.env)] := by rfl) :
    PI X (.Tuple elts kk tpos) (.Call (.Name "enumerate" p) [e] [] pos) (iEnumA X.K ta) := by
  refine ⟨fun pins s σ H R I h => ?_⟩
  refine Call_ (ld_blt I hg hm boot_enumerate (PyProof.Rows.callWith_type1 (thn (ha.run pos pins s σ H _ I h) fun us s1 ⟨vs, H1, I1, r1, q1⟩ => ?_) hs rfl))
  obtain ⟨a, xs, ex, q⟩ := q1
  subst ex
  obtain ⟨u, rfl, r⟩ := vals1 r1
  cases r
  have fp : ∀ b ∈ [s1.heap.objs.size + 1, s1.heap.objs.size], FpOk X pins H1 b := fun b hb => by
    have e' : b = s1.heap.objs.size + 1 ∨ b = s1.heap.objs.size := by simpa using hb
    have hle : s1.heap.objs.size ≤ b := by
      rcases e' with z | z
      · rw [z]; exact Nat.le_add_right _ _
      · rw [z]; exact Nat.le_refl _
    exact I1.fpOk hle (I1.hok.fresh hle)
  rcases q with ⟨hq, q⟩ | ⟨hq, q⟩
  · obtain ⟨its, rv, p', hz⟩ := I1.list hq
    refine call_enumerate_list p'.isList fun h' he hit hsz hk => wpAny_pyIter_enum he ?_
    have I2 : Inv X pins σ H1 { s1 with heap := h' } := I1.kept (t' := s1.toks) hk
    exact ⟨s1.heap.objs.size + 1, [s1.heap.objs.size + 1, s1.heap.objs.size], _, _, H1, rfl, I2, turn_enum a (s1.heap.objs.size + 1) s1.heap.objs.size, ⟨⟨.none, he⟩, hit, Nat.succ_ne_self _⟩, fp, q⟩
  · obtain ⟨its, rv, p', hz⟩ := I1.tuple hq
    have pt : s1.heap.IsTuple a its.toArray := p'
    have hlt : a < s1.heap.objs.size := by obtain ⟨_, z, _⟩ := pt; exact Heap.lt_size z
    refine call_enum_tup pt fun h' he hit hsz hk => wpAny_pyIter_enum he ?_
    have I2 : Inv X pins σ H1 { s1 with heap := h' } := I1.kept (t' := s1.toks) hk
    exact ⟨s1.heap.objs.size + 1, [s1.heap.objs.size + 1, s1.heap.objs.size], _, _, H1, rfl, I2, turn_enumT a (s1.heap.objs.size + 1) s1.heap.objs.size (Nat.ne_of_lt (Nat.lt_succ_of_lt hlt)) (Nat.ne_of_lt hlt), ⟨⟨.none, he⟩, hit, Nat.succ_ne_self _⟩, fp, q⟩

/-- the walk J gives the data ds, wherever what was settled at F₀ stands -/
structure ItOk (K : PySem.W.Frag) (J : It) (F0 : Hp) (ds : List PyData) : Prop where
  go : ∀ pa i F H π, i < ds.length → Same F0 F → Wd pa F H π → J.go i H
  yld : ∀ pa i F H π x H' d, ds[i]? = some d → Same F0 F → Wd pa F H π → J.yld i H x H' → ∃ F', Post pa F H F' H' π ∧ Rp K F' x d
  stop : ∀ pa F H π, Same F0 F → Wd pa F H π → J.stop ds.length H
section
variable {K : PySem.W.Frag} {F0 : Hp}
theorem itok_list {a : Addr} {vs : List V} {ds : List PyData} (h : SqL K F0 a vs) (r : RpA K F0 vs ds) : ItOk K (Itl K a) F0 ds where
  go := fun pa i F H π hi s w => by
    have hi' : i < vs.length := by rw [r.length]; exact hi
    exact ⟨vs, vs[i], w.same.seq (s.seq h), List.getElem?_eq_getElem hi'⟩
  yld := fun pa i F H π x H' d hd s w y => by
    obtain ⟨e, y⟩ := y
    have e' : H' = H := e
    subst e'
    obtain ⟨v, hv, rv⟩ := r.get hd
    have q := (y vs (w.same.seq (s.seq h))).symm.trans hv
    cases q
    exact ⟨F, .refl w, rv.mono s⟩
  stop := fun pa F H π s w => ⟨vs, w.same.seq (s.seq h), by rw [r.length]; exact Nat.le_refl _⟩
theorem itok_tup {a : Addr} {vs : List V} {ds : List PyData} (h : SqT K F0 a vs) (r : RpA K F0 vs ds) : ItOk K (Itt K a) F0 ds where
  go := fun pa i F H π hi s w => by
    have hi' : i < vs.length := by rw [r.length]; exact hi
    exact ⟨vs, vs[i], seqT_mono w.same (seqT_mono s h), List.getElem?_eq_getElem hi'⟩
  yld := fun pa i F H π x H' d hd s w y => by
    obtain ⟨e, y⟩ := y
    have e' : H' = H := e
    subst e'
    obtain ⟨v, hv, rv⟩ := r.get hd
    have q := (y vs (seqT_mono w.same (seqT_mono s h))).symm.trans hv
    cases q
    exact ⟨F, .refl w, rv.mono s⟩
  stop := fun pa F H π s w => ⟨vs, seqT_mono w.same (seqT_mono s h), by rw [r.length]; exact Nat.le_refl _⟩
/-- the ints from lo on, n of them -/
def upTo (lo : Int) (n : Nat) : List PyData := (List.range n).map fun (i : Nat) => PyData.int (lo + (i : Int))
theorem upTo_length (lo : Int) (n : Nat) : (upTo lo n).length = n := by unfold upTo; rw [List.length_map, List.length_range]
theorem itok_range {lo : Int} {n : Nat} : ItOk K (Itr lo n) F0 (upTo lo n) where
  go := fun pa i F H π hi s w => by rw [upTo_length] at hi; exact hi
  yld := fun pa i F H π x H' d hd s w y => by
    obtain ⟨e, y⟩ := y
    have e' : H' = H := e
    subst e'
    have y' : x = .int (lo + i) := y
    subst y'
    unfold upTo at hd
    rw [List.getElem?_map] at hd
    cases q : (List.range n)[i]? with
    | none => rw [q] at hd; cases hd
    | some j =>
      rw [q] at hd
      cases hd
      have ej : j = i := by
        rw [List.getElem?_eq_some_iff] at q
        obtain ⟨_, q⟩ := q
        simpa using q.symm
      subst ej
      exact ⟨F, .refl w, .int _⟩
  stop := fun pa F H π s w => by rw [upTo_length]; exact Nat.le_refl n
/-- the signs of a text -/
def signs (x : Str) : List PyData := x.cps.toList.map fun c => .str ⟨#[c]⟩
theorem itok_str {x : Str} : ItOk K (Its x) F0 (signs x) where
  go := fun pa i F H π hi s w => by
    unfold signs at hi
    rw [List.length_map, Array.length_toList] at hi
    exact hi
  yld := fun pa i F H π v H' d hd s w y => by
    obtain ⟨e, c, hc, ev⟩ := y
    have e' : H' = H := e
    subst e' ev
    unfold signs at hd
    rw [List.getElem?_map, Array.getElem?_toList, hc] at hd
    cases hd
    exact ⟨F, .refl w, .str _⟩
  stop := fun pa F H π s w => by
    unfold signs
    rw [List.length_map, Array.length_toList]
    exact Nat.le_refl _
/-- numbered items -/
def numb (ds : List PyData) : List PyData := ds.zipIdx.map fun p => .tuple [.int (p.2 : Int), p.1]
theorem numb_length (ds : List PyData) : (numb ds).length = ds.length := by unfold numb; rw [List.length_map, List.length_zipIdx]
theorem numb_get {ds : List PyData} {i : Nat} {d : PyData} (h : (numb ds)[i]? = some d) : ∃ x, ds[i]? = some x ∧ d = .tuple [.int (i : Int), x] := by
  unfold numb at h
  rw [List.getElem?_map, List.getElem?_zipIdx] at h
  cases q : ds[i]? with
  | none => rw [q] at h; cases h
  | some x =>
    rw [q] at h
    simp only [Option.map_some, Option.some.injEq] at h
    exact ⟨x, rfl, by rw [← h, Nat.zero_add]⟩
theorem pair_new {pa : Option Addr} {F H : Hp} {π : Pt} {T : Addr} {x y : V} {dx dy : PyData} (w : Wd pa F H π) (nT : H T = none) (rx : Rp K F x dx) (ry : Rp K F y dy) : ∃ F', Post pa F H F' (upd H T (.tup [x, y])) π ∧ Rp K F' (.ref T) (.tuple [dx, dy]) := by
  have a1 := w.add (o := .tup [x, y]) nT
  exact ⟨_, a1, .tup (.inl (.inl upd_same)) (.cons (rx.mono a1.ff) (.cons (ry.mono a1.ff) .nil))⟩
theorem itok_enum {a : Addr} {vs : List V} {ds : List PyData} (h : SqL K F0 a vs) (r : RpA K F0 vs ds) : ItOk K (Ite K a) F0 (numb ds) where
  go := fun pa i F H π hi s w => by
    have hi' : i < vs.length := by rw [r.length, ← numb_length ds]; exact hi
    exact ⟨vs, vs[i], w.same.seq (s.seq h), List.getElem?_eq_getElem hi'⟩
  yld := fun pa i F H π x H' d hd s w y => by
    obtain ⟨T, z, e, nT, e2, y⟩ := y
    subst e e2
    obtain ⟨d', hd', e3⟩ := numb_get hd
    subst e3
    obtain ⟨v, hv, rv⟩ := r.get hd'
    have q := (y vs (w.same.seq (s.seq h))).symm.trans hv
    cases q
    exact pair_new w nT (.int _) (rv.mono s)
  stop := fun pa F H π s w => ⟨vs, w.same.seq (s.seq h), by rw [numb_length, r.length]; exact Nat.le_refl _⟩
theorem itok_enumT {a : Addr} {vs : List V} {ds : List PyData} (h : SqT K F0 a vs) (r : RpA K F0 vs ds) : ItOk K (IteT K a) F0 (numb ds) where
  go := fun pa i F H π hi s w => by
    have hi' : i < vs.length := by rw [r.length, ← numb_length ds]; exact hi
    exact ⟨vs, vs[i], seqT_mono w.same (seqT_mono s h), List.getElem?_eq_getElem hi'⟩
  yld := fun pa i F H π x H' d hd s w y => by
    obtain ⟨T, z, e, nT, e2, y⟩ := y
    subst e e2
    obtain ⟨d', hd', e3⟩ := numb_get hd
    subst e3
    obtain ⟨v, hv, rv⟩ := r.get hd'
    have q := (y vs (seqT_mono w.same (seqT_mono s h))).symm.trans hv
    cases q
    exact pair_new w nT (.int _) (rv.mono s)
  stop := fun pa F H π s w => ⟨vs, seqT_mono w.same (seqT_mono s h), by rw [numb_length, r.length]; exact Nat.le_refl _⟩
/-- pairs, as long as both last -/
def pairs (ds es : List PyData) : List PyData := (ds.zip es).map fun p => .tuple [p.1, p.2]
theorem pairs_get {ds es : List PyData} {i : Nat} {d : PyData} (h : (pairs ds es)[i]? = some d) : ∃ x y, ds[i]? = some x ∧ es[i]? = some y ∧ d = .tuple [x, y] := by
  unfold pairs at h
  rw [List.getElem?_map] at h
  cases q : (ds.zip es)[i]? with
  | none => rw [q] at h; cases h
  | some p =>
    rw [q] at h
    simp only [Option.map_some, Option.some.injEq] at h
    obtain ⟨x, y⟩ := p
    obtain ⟨q1, q2⟩ := List.getElem?_zip_eq_some.mp q
    exact ⟨x, y, q1, q2, h.symm⟩
theorem pairs_length (ds es : List PyData) : (pairs ds es).length = min ds.length es.length := by unfold pairs; rw [List.length_map, List.length_zip]
theorem itok_zip {a b : Addr} {vs ws : List V} {ds es : List PyData} (h : SqL K F0 a vs) (r : RpA K F0 vs ds) (h2 : SqL K F0 b ws) (r2 : RpA K F0 ws es) : ItOk K (Itz K a b) F0 (pairs ds es) where
  go := fun pa i F H π hi s w => by
    rw [pairs_length] at hi
    have hi1 : i < vs.length := by rw [r.length]; omega
    have hi2 : i < ws.length := by rw [r2.length]; omega
    exact ⟨vs, ws, vs[i], ws[i], w.same.seq (s.seq h), w.same.seq (s.seq h2), List.getElem?_eq_getElem hi1, List.getElem?_eq_getElem hi2⟩
  yld := fun pa i F H π x H' d hd s w y => by
    obtain ⟨T, x1, y1, e, nT, e2, z1, z2⟩ := y
    subst e e2
    obtain ⟨d1, d2, g1, g2, e3⟩ := pairs_get hd
    subst e3
    obtain ⟨v, hv, rv⟩ := r.get g1
    obtain ⟨u, hu, ru⟩ := r2.get g2
    have q1 := (z1 vs (w.same.seq (s.seq h))).symm.trans hv
    have q2 := (z2 ws (w.same.seq (s.seq h2))).symm.trans hu
    cases q1
    cases q2
    exact pair_new w nT (rv.mono s) (ru.mono s)
  stop := fun pa F H π s w => ⟨vs, ws, w.same.seq (s.seq h), w.same.seq (s.seq h2), by rw [pairs_length, r.length, r2.length]; omega⟩
theorem itok_zipT {a b : Addr} {vs ws : List V} {ds es : List PyData} (h : SqT K F0 a vs) (r : RpA K F0 vs ds) (h2 : SqT K F0 b ws) (r2 : RpA K F0 ws es) : ItOk K (RZ.ItzT K a b) F0 (pairs ds es) where
  go := fun pa i F H π hi s w => by
    rw [pairs_length] at hi
    have hi1 : i < vs.length := by rw [r.length]; omega
    have hi2 : i < ws.length := by rw [r2.length]; omega
    exact ⟨vs, ws, vs[i], ws[i], seqT_mono w.same (seqT_mono s h), seqT_mono w.same (seqT_mono s h2), List.getElem?_eq_getElem hi1, List.getElem?_eq_getElem hi2⟩
  yld := fun pa i F H π x H' d hd s w y => by
    obtain ⟨T, x1, y1, e, nT, e2, z1, z2⟩ := y
    subst e e2
    obtain ⟨d1, d2, g1, g2, e3⟩ := pairs_get hd
    subst e3
    obtain ⟨v, hv, rv⟩ := r.get g1
    obtain ⟨u, hu, ru⟩ := r2.get g2
    have q1 := (z1 vs (seqT_mono w.same (seqT_mono s h))).symm.trans hv
    have q2 := (z2 ws (seqT_mono w.same (seqT_mono s h2))).symm.trans hu
    cases q1
    cases q2
    exact pair_new w nT (rv.mono s) (ru.mono s)
  stop := fun pa F H π s w => ⟨vs, ws, seqT_mono w.same (seqT_mono s h), seqT_mono w.same (seqT_mono s h2), by rw [pairs_length, r.length, r2.length]; omega⟩
end

/-- the walk of wi gives the data that f tells -/
def EvI (K : PySem.W.Frag) (wi : TI) (f : ML) : Prop := ∀ ρ π ds π', f ρ π = some (ds, π') → ∀ pa H0 F H σ R, Wd pa F H π → StOk K pa H0 F H σ ρ →
  (∀ J F' H', Post pa F H F' H' π' → ItOk K J F' ds → R J H') → wi σ H R
section
variable {K : PySem.W.Frag} {te tb : TE} {f g : MX}
def asL : Option (PyData × Pt) → Option (List PyData × Pt)
  | some (.list ds, π) => some (ds, π)
  | _ => none
def asT : Option (PyData × Pt) → Option (List PyData × Pt)
  | some (.tuple ds, π) => some (ds, π)
  | _ => none
theorem asL_some {o : Option (PyData × Pt)} {ds : List PyData} {π : Pt} (h : asL o = some (ds, π)) : o = some (.list ds, π) := by
  unfold asL at h
  split at h
  · cases h; rfl
  · cases h
theorem asT_some {o : Option (PyData × Pt)} {ds : List PyData} {π : Pt} (h : asT o = some (ds, π)) : o = some (.tuple ds, π) := by
  unfold asT at h
  split at h
  · cases h; rfl
  · cases h
def iL (f : MX) : ML := fun ρ π => asL (f ρ π)
def iT (f : MX) : ML := fun ρ π => asT (f ρ π)
theorem evi_list (e : EvE K te f) : EvI K (iList K te) (iL f) := fun ρ π ds π' hf pa H0 F H σ R w s q => by
  refine e ρ π _ π' (asL_some hf) pa H0 F H σ _ w s fun v F' H' p r => ?_
  obtain ⟨a, vs, rfl, h, r⟩ := r.lst_inv
  exact ⟨a, rfl, ⟨vs, p.wd.same.seq h⟩, q _ F' H' p (itok_list h r)⟩
theorem evi_tup (e : EvE K te f) : EvI K (iTup K te) (iT f) := fun ρ π ds π' hf pa H0 F H σ R w s q => by
  refine e ρ π _ π' (asT_some hf) pa H0 F H σ _ w s fun v F' H' p r => ?_
  obtain ⟨a, vs, rfl, h, r⟩ := r.tup_inv
  exact ⟨a, rfl, ⟨vs, seqT_mono p.wd.same h⟩, q _ F' H' p (itok_tup h r)⟩
/-- a range's bound; so written that it stands still on an unknown number -/
def okR : Int → Bool
  | .ofNat n => Nat.ble n 4611686018427387903
  | .negSucc n => Nat.ble n 4611686018427387903
theorem okR_iff {j : Int} (h : okR j = true) : -(2 ^ 62) ≤ j ∧ j < 2 ^ 62 := by
  have e : (2 : Int) ^ 62 = 4611686018427387904 := by decide
  rw [e]
  cases j with
  | ofNat n =>
    have : n ≤ 4611686018427387903 := Nat.le_of_ble_eq_true h
    have e2 : Int.ofNat n = (n : Int) := rfl
    rw [e2]; omega
  | negSucc n =>
    have : n ≤ 4611686018427387903 := Nat.le_of_ble_eq_true h
    rw [Int.negSucc_eq]; omega
theorem okR_of {j : Int} (h0 : -1000000 ≤ j) (h1 : j ≤ 1000000) : okR j = true := by
  cases j with
  | ofNat n =>
    have e2 : Int.ofNat n = (n : Int) := rfl
    rw [e2] at h1
    exact Nat.ble_eq_true_of_le (by omega)
  | negSucc n =>
    rw [Int.negSucc_eq] at h0
    exact Nat.ble_eq_true_of_le (by omega)
def iR1 (f : MX) : ML := fun ρ π => match f ρ π with
  | some (.int j, π') => if okR j = true then some (upTo 0 j.toNat, π') else none
  | _ => none
theorem evi_range1 (e : EvX K te f) : EvI K (iRng1 (tCons te tNil)) (iR1 f) := fun ρ π ds π' hf pa H0 F H σ R w s q => by
  unfold iR1 at hf
  split at hf
  · rename_i j π1 ef
    split at hf
    · rename_i hj
      cases hf
      exact e ρ π _ π' ef pa H0 F H σ _ w s fun v F' H' p r => ⟨j, by rw [r.int_inv], (okR_iff hj).1, (okR_iff hj).2, q _ F' H' p itok_range⟩
    · cases hf
  · cases hf
def iR2 (f g : MX) : ML := fun ρ π => match f ρ π with
  | some (.int i, π1) => (match g ρ π1 with
    | some (.int j, π') => if okR i = true ∧ okR j = true then some (upTo i (j - i).toNat, π') else none
    | _ => none)
  | _ => none
theorem evi_range2 (e : EvX K te f) (e2 : EvX K tb g) : EvI K (iRng2 (tCons te (tCons tb tNil))) (iR2 f g) := fun ρ π ds π' hf pa H0 F H σ R w s q => by
  unfold iR2 at hf
  split at hf
  · rename_i i π1 ef
    split at hf
    · rename_i j π2 eg
      split at hf
      · rename_i hj
        cases hf
        refine e ρ π _ π1 ef pa H0 F H σ _ w s fun v F' H' p r => ?_
        refine e2 ρ π1 _ _ eg pa H0 F' H' σ _ p.wd (s.post w p) fun u F2 H2 p2 r2 => ?_
        exact ⟨i, j, by rw [r.int_inv, r2.int_inv], ⟨(okR_iff hj.1).1, (okR_iff hj.1).2, (okR_iff hj.2).1, (okR_iff hj.2).2⟩, q _ F2 H2 (p.trans w p2) itok_range⟩
      · cases hf
    · cases hf
  · cases hf
def iS (f : MX) : ML := fun ρ π => match f ρ π with
  | some (.str x, π') => some (signs x, π')
  | _ => none
theorem evi_str (e : EvX K te f) : EvI K (iStr te) (iS f) := fun ρ π ds π' hf pa H0 F H σ R w s q => by
  unfold iS at hf
  split at hf
  · rename_i x π1 ef
    cases hf
    exact e ρ π _ π' ef pa H0 F H σ _ w s fun v F' H' p r => ⟨x, r.str_inv, q _ F' H' p itok_str⟩
  · cases hf
def iE (f : MX) : ML := fun ρ π => match f ρ π with
  | some (.list ds, π') => some (numb ds, π')
  | some (.tuple ds, π') => some (numb ds, π')
  | _ => none
theorem evi_enum (e : EvE K te f) : EvI K (iEnumA K (tCons te tNil)) (iE f) := fun ρ π ds π' hf pa H0 F H σ R w s q => by
  unfold iE at hf
  split at hf
  · rename_i ds π1 ef
    cases hf
    refine e ρ π _ π' ef pa H0 F H σ _ w s fun v F' H' p r => ?_
    obtain ⟨a, vs, rfl, h, r⟩ := r.lst_inv
    exact ⟨a, vs, rfl, .inl ⟨p.wd.same.seq h, q _ F' H' p (itok_enum h r)⟩⟩
  · rename_i ds π1 ef
    cases hf
    refine e ρ π _ π' ef pa H0 F H σ _ w s fun v F' H' p r => ?_
    obtain ⟨a, vs, rfl, h, r⟩ := r.tup_inv
    exact ⟨a, vs, rfl, .inr ⟨seqT_mono p.wd.same h, q _ F' H' p (itok_enumT h r)⟩⟩
  · cases hf
def iZ (f g : MX) : ML := fun ρ π => match f ρ π with
  | some (.list ds, π1) => (asL (g ρ π1)).map fun (es, π2) => (pairs ds es, π2)
  | some (.tuple ds, π1) => (asT (g ρ π1)).map fun (es, π2) => (pairs ds es, π2)
  | _ => none
theorem evi_zip (e : EvE K te f) (e2 : EvE K tb g) : EvI K (RZ.iZipA K (tCons te (tCons tb tNil))) (iZ f g) := fun ρ π ds π' hf pa H0 F H σ R w s q => by
  unfold iZ at hf
  split at hf
  · rename_i ds π1 ef
    cases eg : asL (g ρ π1) with
    | none => rw [eg] at hf; cases hf
    | some o =>
      obtain ⟨es, π2⟩ := o
      rw [eg] at hf
      cases hf
      refine e ρ π _ π1 ef pa H0 F H σ _ w s fun v F' H' p r => ?_
      refine e2 ρ π1 _ _ (asL_some eg) pa H0 F' H' σ _ p.wd (s.post w p) fun u F2 H2 p2 r2 => ?_
      obtain ⟨a, vs, rfl, h, r⟩ := (r.mono p2.ff).lst_inv
      obtain ⟨b, ws, rfl, h2, r2⟩ := r2.lst_inv
      exact ⟨a, b, vs, ws, rfl, .inl ⟨p2.wd.same.seq h, p2.wd.same.seq h2, q _ F2 H2 (p.trans w p2) (itok_zip h r h2 r2)⟩⟩
  · rename_i ds π1 ef
    cases eg : asT (g ρ π1) with
    | none => rw [eg] at hf; cases hf
    | some o =>
      obtain ⟨es, π2⟩ := o
      rw [eg] at hf
      cases hf
      refine e ρ π _ π1 ef pa H0 F H σ _ w s fun v F' H' p r => ?_
      refine e2 ρ π1 _ _ (asT_some eg) pa H0 F' H' σ _ p.wd (s.post w p) fun u F2 H2 p2 r2 => ?_
      obtain ⟨a, vs, rfl, h, r⟩ := (r.mono p2.ff).tup_inv
      obtain ⟨b, ws, rfl, h2, r2⟩ := r2.tup_inv
      exact ⟨a, b, vs, ws, rfl, .inr ⟨seqT_mono p2.wd.same h, seqT_mono p2.wd.same h2, q _ F2 H2 (p.trans w p2) (itok_zipT h r h2 r2)⟩⟩
  · cases hf
end
end DL

set_option maxHeartbeats 1000000
namespace DL
open PySem PySem.Spec PyProof.Rows L2
set_option autoImplicit false
section
variable {X : Cx} {K : PySem.W.Frag}

/-! #### slices -/
def MO := Ev → Pt → Option (Option Int × Pt)
def EvO (K : PySem.W.Frag) (t : TO) (f : MO) : Prop := ∀ ρ π o π', f ρ π = some (o, π') → ∀ pa H0 F H σ Q, Wd pa F H π → StOk K pa H0 F H σ ρ → (∀ F' H', Post pa F H F' H' π' → Q o H') → t σ H Q
def oNone : MO := fun _ π => some (none, π)
def oSome (f : MX) : MO := fun ρ π => match f ρ π with
  | some (.int i, π') => some (some i, π')
  | _ => none
theorem evo_none : EvO K tNoPart oNone := fun ρ π o π' hf pa H0 F H σ Q w s q => by
  cases hf; exact q F H (.refl w)
theorem evo_some {te : TE} {f : MX} (e : EvX K te f) : EvO K (tPart te) (oSome f) := fun ρ π o π' hf pa H0 F H σ Q w s q => by
  unfold oSome at hf
  split at hf
  · rename_i i π1 ef
    cases hf
    exact e ρ π _ π' ef pa H0 F H σ _ w s fun v F' H' p r => ⟨i, r.int_inv, q F' H' p⟩
  · cases hf
/-- a list's slice: a new list -/
def fSlL (f : MX) (lo hi : MO) : ML := fun ρ π => (asL (f ρ π)).bind fun (xs, π1) => (lo ρ π1).bind fun (l, π2) => (hi ρ π2).map fun (u, π3) => (cutD xs l u, π3)
theorem ev_slL {te : TE} {f : MX} {tl th : TO} {lo hi : MO} (e : EvX K te f) (el : EvO K tl lo) (eh : EvO K th hi) : EvN K (tSl (rSlL K) te tl th) (fSlL f lo hi) := fun ρ π ds π' hf pa H0 F H σ Q w s q => by
  unfold fSlL at hf
  cases e1 : asL (f ρ π) with
  | none => rw [e1] at hf; cases hf
  | some o1 =>
    obtain ⟨xs, π1⟩ := o1
    rw [e1] at hf
    simp only [Option.bind_some] at hf
    cases e2 : lo ρ π1 with
    | none => rw [e2] at hf; cases hf
    | some o2 =>
      obtain ⟨l, π2⟩ := o2
      rw [e2] at hf
      simp only [Option.bind_some] at hf
      cases e3 : hi ρ π2 with
      | none => rw [e3] at hf; cases hf
      | some o3 =>
        obtain ⟨u, π3⟩ := o3
        rw [e3] at hf
        cases hf
        refine e ρ π _ π1 (asL_some e1) pa H0 F H σ _ w s fun v F1 H1 p1 r1 => ?_
        refine el ρ π1 l π2 e2 pa H0 F1 H1 σ _ p1.wd (s.post w p1) fun F2 H2 p2 => ?_
        have p12 := p1.trans w p2
        refine eh ρ π2 u _ e3 pa H0 F2 H2 σ _ p2.wd (s.post w p12) fun F3 H3 p3 => ?_
        have p13 := p12.trans w p3
        obtain ⟨a, vs, rfl, h, r⟩ := ((r1.post p1.wd p2).post p2.wd p3).lst_inv p3.wd
        refine ⟨a, vs, rfl, h, fun p np => ?_⟩
        exact q p _ F3 _ (p13.trans w (p3.wd.addM np)) (p13.fresh np) (p3.wd.free np) (p3.wd.pa_ne np) upd_same (r.cut l u)
/-- a tuple's, a text's -/
def fSlA (f : MX) (lo hi : MO) : MX := fun ρ π => (f ρ π).bind fun (x, π1) => (lo ρ π1).bind fun (l, π2) => (hi ρ π2).bind fun (u, π3) => match x with
  | .tuple xs => some (.tuple (cutD xs l u), π3)
  | .str z => if z.length ≤ sizeLine then some (.str (cutS z l u), π3) else none
  | _ => none
theorem cut_all {α : Type} (xs : List α) (n m : Nat) (h : n = 0) (h2 : m = xs.length) : (xs.drop n).take (m - n) = xs := by
  subst h
  rw [List.drop_zero, Nat.sub_zero, h2, List.take_length]
theorem ev_slA {te : TE} {f : MX} {tl th : TO} {lo hi : MO} (e : EvX K te f) (el : EvO K tl lo) (eh : EvO K th hi) : EvE K (tSl (fun x lo hi H Q => rSlA K x lo hi H Q ∨ rSlS x lo hi H Q) te tl th) (fSlA f lo hi) := fun ρ π ds π' hf pa H0 F H σ Q w s q => by
  unfold fSlA at hf
  cases e1 : f ρ π with
  | none => rw [e1] at hf; cases hf
  | some o1 =>
    obtain ⟨x, π1⟩ := o1
    rw [e1] at hf
    simp only [Option.bind_some] at hf
    cases e2 : lo ρ π1 with
    | none => rw [e2] at hf; cases hf
    | some o2 =>
      obtain ⟨l, π2⟩ := o2
      rw [e2] at hf
      simp only [Option.bind_some] at hf
      cases e3 : hi ρ π2 with
      | none => rw [e3] at hf; cases hf
      | some o3 =>
        obtain ⟨u, π3⟩ := o3
        rw [e3] at hf
        simp only [Option.bind_some] at hf
        refine e ρ π _ π1 e1 pa H0 F H σ _ w s fun v F1 H1 p1 r1 => ?_
        refine el ρ π1 l π2 e2 pa H0 F1 H1 σ _ p1.wd (s.post w p1) fun F2 H2 p2 => ?_
        have p12 := p1.trans w p2
        refine eh ρ π2 u _ e3 pa H0 F2 H2 σ _ p2.wd (s.post w p12) fun F3 H3 p3 => ?_
        have p13 := p12.trans w p3
        have rr := (r1.post p1.wd p2).post p2.wd p3
        split at hf
        · rename_i xs
          cases hf
          obtain ⟨a, vs, rfl, h, r, hF⟩ := rr.tup_inv p3.wd
          refine .inl ⟨a, vs, rfl, h, fun z => ?_, fun z p np => ?_⟩
          · have ec : cutD xs l u = xs := by
              unfold cutD
              rw [r.length] at z
              exact cut_all xs _ _ z.1 z.2
            rw [ec] at q
            exact q _ F3 H3 p13 (.tup hF r)
          · have a1 := p3.wd.add (o := .tup (cutV vs l u)) np
            exact q (.ref p) _ _ (p13.trans w a1) (.tup (.inl (.inl upd_same)) ((r.cut l u).mono a1.ff))
        · split at hf
          · rename_i z hz
            cases hf
            exact .inr ⟨z, rr.str_inv, hz, q _ F3 H3 p13 (.str _)⟩
          · cases hf
        · cases hf
/-- t[::-1] of a tuple -/
def rRevT (K : PySem.W.Frag) : V → Hp → VK → Prop := fun x H Q => ∃ a xs, x = .ref a ∧ SqT K H a xs ∧ ∀ p, H p = none → Q (.ref p) (upd H p (.tup xs.reverse))

/-! #### built-ins -/
def gAbs : PyData → Option PyData
  | .int i => some (.int (if i < 0 then -i else i))
  | _ => none
theorem sim_abs : SimC1 K (fun xs H Q => ∃ i, xs = [.int i] ∧ Q (.int (if i < 0 then -i else i)) H) gAbs := by
  intro pa F H π x dx d Q w rx e q
  unfold gAbs at e
  split at e
  · cases e; exact ⟨_, by rw [rx.int_inv], q _ F H (.refl w) (.int _)⟩
  · cases e
def gInt : PyData → Option PyData
  | .int i => some (.int i)
  | .bool b => some (.int (b2 b))
  | _ => none
theorem sim_int : SimC1 K (fun xs H Q => (∃ i, xs = [.int i] ∧ Q (.int i) H) ∨ ∃ k, xs = [.bl k] ∧ Q (.int (if k then 1 else 0)) H) gInt := by
  intro pa F H π x dx d Q w rx e q
  unfold gInt at e
  split at e
  · cases e; exact .inl ⟨_, by rw [rx.int_inv], q _ F H (.refl w) (.int _)⟩
  · cases e; exact .inr ⟨_, by rw [rx.bool_inv], q _ F H (.refl w) (.int _)⟩
  · cases e
def gMax2 : PyData → PyData → Option PyData
  | .int i, .int j => some (.int (if j > i then j else i))
  | _, _ => none
def gMin2 : PyData → PyData → Option PyData
  | .int i, .int j => some (.int (if j < i then j else i))
  | _, _ => none
theorem sim_max2 : SimC2 K (fun xs H Q => ∃ i j, xs = [.int i, .int j] ∧ Q (.int (if j > i then j else i)) H) gMax2 := by
  intro pa F H π x y dx dy d Q w rx ry e q
  unfold gMax2 at e
  split at e
  · cases e; exact ⟨_, _, by rw [rx.int_inv, ry.int_inv], q _ F H (.refl w) (.int _)⟩
  · cases e
theorem sim_min2 : SimC2 K (fun xs H Q => ∃ i j, xs = [.int i, .int j] ∧ Q (.int (if j < i then j else i)) H) gMin2 := by
  intro pa F H π x y dx dy d Q w rx ry e q
  unfold gMin2 at e
  split at e
  · cases e; exact ⟨_, _, by rw [rx.int_inv, ry.int_inv], q _ F H (.refl w) (.int _)⟩
  · cases e
/-- divmod(i, j): a new pair -/
def gDivmod : PyData → PyData → Option PyData
  | .int i, .int j => if cDiv i j = true then some (.tuple [.int (i / j), .int (i % j)]) else none
  | _, _ => none
theorem sim_divmod : SimC2 K (fun xs H Q => ∃ i j, xs = [.int i, .int j] ∧ CDiv i j ∧ ∀ p, H p = none → Q (.ref p) (upd H p (.tup [.int (i / j), .int (i % j)]))) gDivmod := by
  intro pa F H π x y dx dy d Q w rx ry e q
  unfold gDivmod at e
  split at e
  · split at e
    · rename_i i j hc
      cases e
      refine ⟨i, j, by rw [rx.int_inv, ry.int_inv], cDiv_ok i j hc, fun p np => ?_⟩
      have a1 := w.add (o := .tup [.int (i / j), .int (i % j)]) np
      exact q (.ref p) _ _ a1 (.tup (.inl (.inl upd_same)) (.cons (.int _) (.cons (.int _) .nil)))
    · cases e
  · cases e

/-- all ints, all bools -/
def ints? : List PyData → Option (List Int)
  | [] => some []
  | .int i :: r => (ints? r).map (i :: ·)
  | _ :: _ => none
theorem ints?_some : ∀ {ds : List PyData} {ns : List Int}, ints? ds = some ns → ds = ns.map PyData.int
  | [], ns, h => by cases h; rfl
  | .int i :: r, ns, h => by
    unfold ints? at h
    cases q : ints? r with
    | none => rw [q] at h; cases h
    | some ms =>
      rw [q] at h
      cases h
      rw [ints?_some q]
      rfl
  | .none :: _, _, h => by cases h
  | .bool _ :: _, _, h => by cases h
  | .str _ :: _, _, h => by cases h
  | .list _ :: _, _, h => by cases h
  | .tuple _ :: _, _, h => by cases h
  | .dict _ :: _, _, h => by cases h
theorem ints?_map : ∀ ns : List Int, ints? (ns.map PyData.int) = some ns
  | [] => rfl
  | n :: ns => by
    show (ints? (ns.map PyData.int)).map (n :: ·) = _
    rw [ints?_map ns]
    rfl
def bools? : List PyData → Option (List Bool)
  | [] => some []
  | .bool i :: r => (bools? r).map (i :: ·)
  | _ :: _ => none
theorem bools?_some : ∀ {ds : List PyData} {ns : List Bool}, bools? ds = some ns → ds = ns.map PyData.bool
  | [], ns, h => by cases h; rfl
  | .bool i :: r, ns, h => by
    unfold bools? at h
    cases q : bools? r with
    | none => rw [q] at h; cases h
    | some ms =>
      rw [q] at h
      cases h
      rw [bools?_some q]
      rfl
  | .none :: _, _, h => by cases h
  | .int _ :: _, _, h => by cases h
  | .str _ :: _, _, h => by cases h
  | .list _ :: _, _, h => by cases h
  | .tuple _ :: _, _, h => by cases h
  | .dict _ :: _, _, h => by cases h
theorem bools?_map : ∀ ns : List Bool, bools? (ns.map PyData.bool) = some ns
  | [] => rfl
  | n :: ns => by
    show (bools? (ns.map PyData.bool)).map (n :: ·) = _
    rw [bools?_map ns]
    rfl
def gAll : PyData → Option PyData
  | .list ds => (bools? ds).map fun bs => .bool (bs.all id)
  | _ => none
def gAny : PyData → Option PyData
  | .list ds => (bools? ds).map fun bs => .bool (bs.any id)
  | _ => none
theorem RpX.bools {pa : Option Addr} {F H : Hp} {π : Pt} {x : V} {ds : List PyData} {bs : List Bool} (w : Wd pa F H π) (rx : RpX K pa F H x (.list ds)) (e : bools? ds = some bs) : ∃ a, x = .ref a ∧ SqL K H a (bs.map V.bl) := by
  obtain ⟨a, vs, rfl, h, r⟩ := rx.lst_inv w
  rw [bools?_some e] at r
  rw [r.bool_inv] at h
  exact ⟨a, rfl, h⟩
theorem RpX.ints {pa : Option Addr} {F H : Hp} {π : Pt} {x : V} {ds : List PyData} {ns : List Int} (w : Wd pa F H π) (rx : RpX K pa F H x (.list ds)) (e : ints? ds = some ns) : ∃ a, x = .ref a ∧ SqL K H a (ns.map V.int) := by
  obtain ⟨a, vs, rfl, h, r⟩ := rx.lst_inv w
  rw [ints?_some e] at r
  rw [r.int_inv] at h
  exact ⟨a, rfl, h⟩
theorem sim_all : SimC1 K (rAll K) gAll := by
  intro pa F H π x dx d Q w rx e q
  unfold gAll at e
  split at e
  · rename_i ds
    cases e1 : bools? ds with
    | none => rw [e1] at e; cases e
    | some bs =>
      rw [e1] at e
      cases e
      obtain ⟨a, rfl, h⟩ := rx.bools w e1
      exact ⟨a, bs, rfl, h, q _ F H (.refl w) (.bl _)⟩
  · cases e
theorem sim_any : SimC1 K (rAny K) gAny := by
  intro pa F H π x dx d Q w rx e q
  unfold gAny at e
  split at e
  · rename_i ds
    cases e1 : bools? ds with
    | none => rw [e1] at e; cases e
    | some bs =>
      rw [e1] at e
      cases e
      obtain ⟨a, rfl, h⟩ := rx.bools w e1
      exact ⟨a, bs, rfl, h, q _ F H (.refl w) (.bl _)⟩
  · cases e
def gSum : PyData → Option PyData
  | .list ds => (ints? ds).map fun bs => .int bs.sum
  | _ => none
theorem sim_sum : SimC1 K (rSum K) gSum := by
  intro pa F H π x dx d Q w rx e q
  unfold gSum at e
  split at e
  · rename_i ds
    cases e1 : ints? ds with
    | none => rw [e1] at e; cases e
    | some bs =>
      rw [e1] at e
      cases e
      obtain ⟨a, rfl, h⟩ := rx.ints w e1
      exact ⟨a, bs, rfl, h, q _ F H (.refl w) (.int _)⟩
  · cases e

/-! #### sorted -/
def insI (x : Int) : List Int → List Int
  | [] => [x]
  | y :: r => if x ≤ y then x :: y :: r else y :: insI x r
def srtI : List Int → List Int
  | [] => []
  | x :: r => insI x (srtI r)
theorem insI_perm (x : Int) : ∀ l : List Int, (insI x l).Perm (x :: l)
  | [] => .refl _
  | y :: r => by
    unfold insI
    split
    · exact .refl _
    · exact ((insI_perm x r).cons y).trans (.swap x y r)
theorem srtI_perm : ∀ l : List Int, (srtI l).Perm l
  | [] => .refl _
  | x :: r => (insI_perm x (srtI r)).trans ((srtI_perm r).cons x)
theorem insI_sorted (x : Int) : ∀ l : List Int, l.Pairwise (· ≤ ·) → (insI x l).Pairwise (· ≤ ·)
  | [], _ => by unfold insI; exact List.pairwise_singleton _ _
  | y :: r, h => by
    obtain ⟨h1, h2⟩ := List.pairwise_cons.mp h
    unfold insI
    split
    · rename_i hxy
      refine List.pairwise_cons.mpr ⟨fun z hz => ?_, h⟩
      rcases List.mem_cons.mp hz with e | hz
      · rw [e]; exact hxy
      · exact Int.le_trans hxy (h1 z hz)
    · rename_i hxy
      refine List.pairwise_cons.mpr ⟨fun z hz => ?_, insI_sorted x r h2⟩
      rcases List.mem_cons.mp ((insI_perm x r).mem_iff.mp hz) with e | hz
      · rw [e]; omega
      · exact h1 z hz
theorem srtI_sorted : ∀ l : List Int, (srtI l).Pairwise (· ≤ ·)
  | [] => .nil
  | x :: r => insI_sorted x _ (srtI_sorted r)
theorem sorted_eq : ∀ {l m : List Int}, l.Perm m → l.Pairwise (· ≤ ·) → m.Pairwise (· ≤ ·) → l = m
  | [], m, p, _, _ => (List.perm_nil.mp p.symm).symm
  | x :: l, [], p, _, _ => nomatch (List.perm_nil.mp p)
  | x :: l, y :: m, p, h, k => by
    obtain ⟨h1, h2⟩ := List.pairwise_cons.mp h
    obtain ⟨k1, k2⟩ := List.pairwise_cons.mp k
    have a : x ≤ y := by
      rcases List.mem_cons.mp (p.mem_iff.mpr List.mem_cons_self) with e | z
      · rw [e]; exact Int.le_refl _
      · exact h1 y z
    have b : y ≤ x := by
      rcases List.mem_cons.mp (p.mem_iff.mp List.mem_cons_self) with e | z
      · rw [e]; exact Int.le_refl _
      · exact k1 x z
    have e : x = y := by omega
    subst e
    rw [sorted_eq p.cons_inv h2 k2]
def gSortI : PyData → Option (List PyData)
  | .list ds => (ints? ds).map fun ns => (srtI ns).map PyData.int
  | _ => none
theorem sim_sortI : SimC1N K (rSortedI K) gSortI := by
  intro pa F H π x dx d Q w rx e q
  unfold gSortI at e
  split at e
  · rename_i ds
    cases e1 : ints? ds with
    | none => rw [e1] at e; cases e
    | some ns =>
      rw [e1] at e
      cases e
      obtain ⟨a, rfl, h⟩ := rx.ints w e1
      refine ⟨a, ns, rfl, h, fun ns' p pm so np => ?_⟩
      have en : ns' = srtI ns := sorted_eq (pm.trans (srtI_perm ns).symm) so (srtI_sorted ns)
      subst en
      exact q p _ F _ (w.addM np) np (w.free np) (w.pa_ne np) upd_same (RpA.ints _)
  · cases e

/-! #### list(x), tuple(x) -/
def gList : PyData → Option (List PyData)
  | .list ds => some ds
  | .tuple ds => some ds
  | _ => none
theorem sim_list : SimC1N K (fun xs H Q => ∃ p ys, xs = [.ref p] ∧ (SqL K H p ys ∨ SqT K H p ys) ∧ ∀ l, H l = none → Q (.ref l) (upd H l (.lst ys))) gList := by
  intro pa F H π x dx d Q w rx e q
  unfold gList at e
  split at e
  · cases e
    obtain ⟨a, vs, rfl, h, r⟩ := rx.lst_inv w
    exact ⟨a, vs, rfl, .inl h, fun p np => q p _ F _ (w.addM np) np (w.free np) (w.pa_ne np) upd_same r⟩
  · cases e
    obtain ⟨a, vs, rfl, h, r, _⟩ := rx.tup_inv w
    exact ⟨a, vs, rfl, .inr h, fun p np => q p _ F _ (w.addM np) np (w.free np) (w.pa_ne np) upd_same r⟩
  · cases e
def gTuple : PyData → Option PyData
  | .list ds => some (.tuple ds)
  | .tuple ds => some (.tuple ds)
  | _ => none
theorem sim_tuple : SimC1 K (fun xs H Q => ∃ p ys, xs = [.ref p] ∧ ((SqL K H p ys ∧ ∀ l, H l = none → Q (.ref l) (upd H l (.tup ys))) ∨ (SqT K H p ys ∧ Q (.ref p) H))) gTuple := by
  intro pa F H π x dx d Q w rx e q
  unfold gTuple at e
  split at e
  · cases e
    obtain ⟨a, vs, rfl, h, r⟩ := rx.lst_inv w
    refine ⟨a, vs, rfl, .inl ⟨h, fun p np => ?_⟩⟩
    have a1 := w.add (o := .tup vs) np
    exact q (.ref p) _ _ a1 (.tup (.inl (.inl upd_same)) (r.mono a1.ff))
  · cases e
    obtain ⟨a, vs, rfl, h, r, hF⟩ := rx.tup_inv w
    exact ⟨a, vs, rfl, .inr ⟨h, q _ F H (.refl w) (.tup hF r)⟩⟩
  · cases e

/-! #### sorted(set(t)) -/
def rSetT (w : World) (K : PySem.W.Frag) : List V → Hp → VK → Prop := fun xs H Q => ∃ (a : Addr) (ns : List Int), xs = [.ref a] ∧ (SqT K H a (ns.map V.int)) ∧ ns.length + 1 < scanBound ∧
  ∀ p c, H p = none → c ≤ ns.length → Q (.ref p) (upd H p (SetO w p (fun j => decide (j ∈ ns)) c))
end
end DL

set_option maxHeartbeats 2000000
namespace DL
open PySem PySem.Spec PyProof.Rows L2
set_option autoImplicit false

/-! #### t[::-1] -/
section
variable {prog : Program} {w : World} {A : Around} {E : Value → Shared → Prop} {s : Shared}
theorem sliceApplied_rev {sl : Addr} {vs : Value} {n : Nat} {Q : Int × Int × Nat → Shared → Prop} (hs : s.heap.IsSliceOf sl .none .none vs) (ps : IsPart vs (some (-1)))
    (h : Q ((n : Int) - 1, -1, n) s) : wpAny (model prog w) A (Builtin.Slice.sliceApplied (.ref sl) (pure (n : Int))) Q E s := by
  obtain ⟨os, hos, hcs, hds⟩ := id hs
  cases ps with
  | int i t =>
    unfold Builtin.Slice.sliceApplied Builtin.Slice.sliceFields
    refine wpAny_bind (wpAny_bind (wpAny_field hos hds (x := .none) rfl (wpAny_bind (wpAny_field hos hds (x := .none) rfl (wpAny_bind (wpAny_field hos hds (x := .int (-1) t) rfl (wpAny_pure ?_)))))))
    refine wpAny_bind (slicePart_int ?_)
    show wpAny _ _ (if ((-1 : Int) == 0) = true then _ else _) _ _ s
    rw [if_neg (by decide)]
    refine wpAny_bind (slicePart_none (wpAny_bind (slicePart_none (wpAny_bind (wpAny_pure ?_)))))
    have e : Builtin.Slice.slicePlaces ((n : Int) - 1) (-1) (-1) = n := by
      unfold Builtin.Slice.slicePlaces
      rw [if_neg (by decide)]
      by_cases hn : (n : Int) - 1 > -1
      · rw [if_pos hn]
        have e1 : ((n : Int) - 1 - -1 - 1) / (- -1) + 1 = n := by
          rw [show (- -1 : Int) = 1 by decide, Int.ediv_one]
          omega
        rw [e1]
        omega
      · rw [if_neg hn]
        have : n = 0 := by omega
        subst this
        rfl
    show wpAny _ _ (pure ((n : Int) - 1, (-1 : Int), Builtin.Slice.slicePlaces ((n : Int) - 1) (-1) (-1))) _ _ s
    rw [e]
    exact wpAny_pure h
theorem fm_congr {α β : Type} {f g : α → Option β} : ∀ l : List α, (∀ x ∈ l, f x = g x) → l.filterMap f = l.filterMap g
  | [], _ => rfl
  | x :: l, h => by
    rw [List.filterMap_cons, List.filterMap_cons, h x List.mem_cons_self, fm_congr l fun y hy => h y (List.mem_cons_of_mem _ hy)]
theorem pick_rev (xs : Array Value) : ((List.range xs.size).filterMap fun (m : Nat) => xs[((xs.size : Int) - 1 + (m : Int) * (-1)).toNat]?).toArray = xs.toList.reverse.toArray := by
  have e : (List.range xs.size).filterMap (fun (m : Nat) => xs[((xs.size : Int) - 1 + (m : Int) * (-1)).toNat]?) = ((List.range xs.size).map fun k => xs.size - 1 - k).filterMap (xs[·]?) := by
    rw [List.filterMap_map]
    refine fm_congr _ fun m hm => ?_
    have hm' := List.mem_range.mp hm
    show xs[((xs.size : Int) - 1 + (m : Int) * (-1)).toNat]? = xs[xs.size - 1 - m]?
    have : ((xs.size : Int) - 1 + (m : Int) * (-1)).toNat = xs.size - 1 - m := by omega
    rw [this]
  rw [e, PySem.W.krv_range, List.filterMap_reverse, PySem.W.krv_all]
theorem getItem_tuple_rev {t sl : Addr} {items : Array Value} {vs : Value} {Q : Value → Shared → Prop} (ht : IsTup s.heap t items) (hs : s.heap.IsSliceOf sl .none .none vs) (ps : IsPart vs (some (-1)))
    (h : Q (.ref s.heap.objs.size) { s with heap := s.heap.push { cls := .type "tuple", data := .seq items.toList.reverse.toArray } })
    (hsz : items.size ≤ sizeLine) : wpAny (model prog w) A (getItem (.ref t) (.ref sl)) Q E s := by
  have hrev : sizeOk (.seq items.toList.reverse.toArray) := by
    show items.toList.reverse.toArray.size ≤ sizeLine
    rw [List.size_toArray, List.length_reverse, Array.length_toList]
    exact hsz
  obtain ⟨os, hos, hcs, hds⟩ := id hs
  have hTs : s.TypeIs (.ref sl) "slice" := ⟨os, hos, hcs⟩
  unfold getItem
  try with_reducible refine wpAny_holding ?_
  first | refine wpAny_bind (wpAny_pure ?_) | skip
  refine wpAny_bind (wpAny_sequenceKey ht.typeIs (by decide) ?_)
  refine wpAny_bind (wpAny_callSpecial?_slot (name := Str.ofString "__getitem__") ht.typeIs PyProof.Rows.slot_tuple_getitem
    (wpAny_call_entry PyProof.Rows.slot_tuple_getitem ht.typeIs PyProof.Rows.entry_tuple_getitem ?_ (PyProof.Rows.args_tuple_getitem _ _)))
  show wpAny _ _ (Builtin.Tuple.tupleItemsOf (.ref t) >>= _) _ _ s
  refine wpAny_bind (PyProof.Rows.tupleItemsOf_ ht (wpAny_bind (wpAny_typeOf hTs ?_)))
  rw [if_pos (by decide)]
  refine wpAny_bind (sliceApplied_rev hs ps ?_)
  have hno : ¬ ((((items.size : Int) - 1) == 0 && (-1 : Int) == 1 && items.size == items.size) = true) := by
    intro q
    rw [Bool.and_eq_true, Bool.and_eq_true] at q
    exact absurd q.1.2 (by decide)
  show wpAny _ _ (if (((items.size : Int) - 1) == 0 && (-1 : Int) == 1 && items.size == items.size) = true then _ else _) _ _ s
  rw [if_neg hno, pick_rev]
  first
    | exact wpAny_bind (m := Builtin.Tuple.tupleExact _) (wpAny_newObj_type (wpAny_pure ⟨_, rfl, wpAny_pure h⟩) hrev)
    | exact wpAny_bind (m := Builtin.Tuple.tupleExact _) (wpAny_newObj_type (wpAny_bind (wpAny_pure (wpAny_pure ⟨_, rfl, wpAny_pure h⟩))) hrev)
    | exact wpAny_bind (wpAny_bind (m := Builtin.Tuple.tupleExact _) (wpAny_newObj_type (wpAny_pure (wpAny_pure ⟨_, rfl, wpAny_pure h⟩)) hrev))
    | exact wpAny_bind (wpAny_bind (m := Builtin.Tuple.tupleExact _) (wpAny_newObj_type (wpAny_pure ⟨_, rfl, wpAny_pure h⟩) hrev))
end
section
variable {X : Cx} {K : PySem.W.Frag}
def tRevT (K : PySem.W.Frag) (te : TE) : TE := fun σ H Q => te σ H fun x H1 => ∃ a xs, x = .ref a ∧ SqT K H1 a xs ∧ ∀ p, H1 p = none → Q (.ref p) (upd H1 p (.tup xs.reverse))
theorem pe_revT {e : Expr} {te : TE} {k : Nat} {p1 p2 p3 pos : Pos} (he : PE X e te) : PE X (.Subscript e (.Slice none none (some (.UnaryOp .USub (.Constant (.int 1) k p1) p2)) p3) pos) (tRevT X.K te) := by
  refine ⟨fun pins s σ H Q I h => ?_⟩
  refine Subscript_ (thn (he.run pins s σ H _ I h) fun v s1 ⟨x, H1, I1, r1, q1⟩ => ?_)
  obtain ⟨a, xs, ex, hx, q⟩ := q1
  subst ex
  cases r1
  have hst : PO X (some (.UnaryOp .USub (.Constant (.int 1) k p1) p2)) (tPart (tUn (rU fun i => .int (-i)) (tC (.int 1)))) := po_some (pe_un un_neg pe_int)
  refine wpAny_Slice (thn (po_none.run pins s1 σ H1 (fun o H2 => o = none ∧ H2 = H1) I1 ⟨rfl, rfl⟩) fun vl s2 ⟨l, H2, I2, pl, el, e2⟩ => ?_)
  subst el e2
  cases pl
  refine thn (po_none.run pins s2 σ H2 (fun o H3 => o = none ∧ H3 = H2) I2 ⟨rfl, rfl⟩) fun vu s3 ⟨u, H3, I3, pu, eu, e3⟩ => ?_
  subst eu e3
  cases pu
  refine thn (hst.run pins s3 σ H3 (fun o H4 => o = some (-1) ∧ H4 = H3) I3 ⟨1, rfl, -1, rfl, rfl, rfl⟩) fun vs s4 ⟨o, H4, I4, ps, eo, e4⟩ => ?_
  subst eo e4
  have I5 : Inv X pins σ H4 { s4 with heap := s4.heap.push { cls := .type "slice", data := .fields #[.none, .none, vs] } } := I4.kept (t' := s4.toks) fun b ob q => Heap.get?_push_of_some _ q
  obtain ⟨its, r, ht, hz⟩ := I5.tuple hx
  have hlen := r.length
  show wpAny (model X.prog X.w) X.A (subscriptTail e (.Slice none none (some (.UnaryOp .USub (.Constant (.int 1) k p1) p2)) p3) (.ref a) (.ref s4.heap.objs.size)) (EP X pins σ Q) X.xe { s4 with heap := s4.heap.push { cls := .type "slice", data := .fields #[.none, .none, vs] } }
  refine tail_any (ops := [.ref a, .ref s4.heap.objs.size]) ht.typeIs PyProof.Rows.slot_tuple_getitem.lookup ?_ (by with_unfolding_all rfl)
  refine getItem_tuple_rev ht (Heap.IsSliceOf.new _ .none .none vs) ps ?_ (by rw [List.size_toArray]; omega)
  refine ⟨.ref _, _, I5.laid (t' := s4.toks) (o := .tup xs.reverse) (fun b ob q => Heap.get?_push_of_some _ q) (Nat.le_refl _) ?_, rfl, q _ (I5.hok.fresh (Nat.le_refl _))⟩
  exact ⟨by rw [List.length_reverse]; exact hz, _, r.reverse, IsTup.new _ _⟩
theorem RpA.reverse {F : Hp} {vs : List V} {ds : List PyData} (r : RpA K F vs ds) : RpA K F vs.reverse ds.reverse := by
  induction r using RpA.rec (motive_1 := fun _ _ _ => True) with
  | nil => exact .nil
  | cons h t _ ih =>
    rw [List.reverse_cons, List.reverse_cons]
    exact ih.append (.cons h .nil)
  | _ => trivial
def fRevT (f : MX) : MX := fun ρ π => (asT (f ρ π)).map fun (xs, π1) => (.tuple xs.reverse, π1)
theorem ev_revT {te : TE} {f : MX} (e : EvX K te f) : EvE K (tRevT K te) (fRevT f) := fun ρ π d π' hf pa H0 F H σ Q w s q => by
  unfold fRevT at hf
  cases e1 : asT (f ρ π) with
  | none => rw [e1] at hf; cases hf
  | some o1 =>
    obtain ⟨xs, π1⟩ := o1
    rw [e1] at hf
    cases hf
    refine e ρ π _ _ (asT_some e1) pa H0 F H σ _ w s fun v F1 H1 p1 r1 => ?_
    obtain ⟨a, vs, rfl, h, r, hF⟩ := r1.tup_inv p1.wd
    refine ⟨a, vs, rfl, h, fun p np => ?_⟩
    have a1 := p1.wd.add (o := .tup vs.reverse) np
    exact q (.ref p) _ _ (p1.trans w a1) (.tup (.inl (.inl upd_same)) (r.reverse.mono a1.ff))

/-! #### text * int -/
def repS (x : Str) (n : Int) : Str := ⟨(List.replicate n.toNat x.cps).foldl (· ++ ·) #[]⟩
def rRepS : R2 := fun x y H Q => ∃ (z : Str) (k : Int), x = .str z ∧ y = .int k ∧ 2 ≤ k ∧ k ≤ 1000 ∧ z.length ≠ 0 ∧ z.length ≤ 1000 ∧ Q (.str (repS z k)) H
theorem op_repS : OpR X (binaryOp .Mult) rRepS := by
  intro pins s σ H x y v u Q I rx ry h
  obtain ⟨z, k, rfl, rfl, h1, h2, h3, h4, q⟩ := h
  obtain ⟨t, rfl⟩ := rx
  obtain ⟨t', rfl⟩ := ry
  have c1 : ¬ k < 1 := by omega
  have c2 : (k == 1 || z.length == 0) = false := by
    rw [beq_eq_false_iff_ne.mpr (by omega : k ≠ 1), beq_eq_false_iff_ne.mpr h3]
    rfl
  have a1 : (k.toNat) * z.length ≤ 1000 * 1000 := Nat.mul_le_mul (by omega) h4
  refine PySem.P.mul_str (by rw [decide_eq_false (by omega), decide_eq_false (by omega)]; rfl) (fun _ _ hz => ?_) (fun _ _ => ?_) ?_
  · have b1 : (1000 : Int) ≤ (2 ^ 63 - 1) / k := Int.le_ediv_of_mul_le (by omega) (by omega)
    omega
  · unfold Builtin.Str.tooLong
    have e : (sizeLine : Nat) = 16777216 := sizeLine_eq
    first
      | (rw [e]; exact decide_eq_false (by rw [Nat.mul_comm] at a1; omega))
      | (simp only [decide_eq_false_iff_not]; rw [Nat.mul_comm] at a1; omega)
  · rw [if_neg c1, c2, if_neg Bool.false_ne_true]
    refine ⟨?_, .str (repS z k), H, I.tok _, ⟨_, rfl⟩, q⟩
    show (repS z k).cps.size ≤ sizeLine
    have e : (sizeLine : Nat) = 16777216 := sizeLine_eq
    have sz : ∀ (n : Nat) (acc : Array Nat), ((List.replicate n z.cps).foldl (· ++ ·) acc).size = acc.size + n * z.length := by
      intro n
      induction n with
      | zero => intro acc; simp
      | succ n ih =>
        intro acc
        rw [List.replicate_succ, List.foldl_cons, ih, Array.size_append]
        have : z.cps.size = z.length := rfl
        rw [this, Nat.succ_mul]
        omega
    show ((List.replicate k.toNat z.cps).foldl (· ++ ·) #[]).size ≤ sizeLine
    rw [sz, e]
    simp only [Array.size_empty]
    omega
def gMulS : PyData → PyData → Option PyData
  | .str z, .int k => if 2 ≤ k ∧ k ≤ 1000 ∧ z.length ≠ 0 ∧ z.length ≤ 1000 then some (.str (repS z k)) else none
  | _, _ => none
theorem sim_mulS : Sim2 K rRepS gMulS := by
  intro pa F H π x y dx dy d Q w rx ry e q
  unfold gMulS at e
  split at e
  · split at e
    · rename_i z k hz
      cases e
      exact ⟨z, k, rx.str_inv, ry.int_inv, hz.1, hz.2.1, hz.2.2.1, hz.2.2.2, q _ F H (.refl w) (.str _)⟩
    · cases e
  · cases e

theorem call_setT (hcalm : X.calm = true) : CallR X (.type "set") (rSetT X.w X.K) := by
  intro pins s σ H xs us Q I r h
  obtain ⟨a, ns, rfl, hs, hb, q⟩ := h
  obtain ⟨its, rv, ht, hz⟩ := I.tuple hs
  rw [Vals.ref1 r]
  refine call_set_tupI ns (I.ok.hd hcalm) ht (intsAre_of rv) hb fun h' tk c R hc hk => ?_
  have hn : H s.heap.objs.size = none := I.hok.fresh (Nat.le_refl _)
  exact ⟨.ref s.heap.objs.size, upd H s.heap.objs.size (SetO X.w s.heap.objs.size (fun j => decide (j ∈ ns)) c), I.laid (t' := tk) hk (Nat.le_refl _) (setO_new R), rfl, q _ c hn hc⟩
end
end DL

set_option maxHeartbeats 2000000
namespace DL
open PySem PySem.Spec PyProof.Rows L2
set_option autoImplicit false
section
variable {X : Cx} {K : PySem.W.Frag}

/-! #### sorted(set(t)) -/
def insU (x : Int) : List Int → List Int
  | [] => [x]
  | y :: r => if x < y then x :: y :: r else if x = y then y :: r else y :: insU x r
def srtU : List Int → List Int
  | [] => []
  | x :: r => insU x (srtU r)
theorem insU_mem (x z : Int) : ∀ l : List Int, z ∈ insU x l ↔ z = x ∨ z ∈ l
  | [] => by unfold insU; simp
  | y :: r => by
    unfold insU
    split
    · simp
    · split
      · rename_i e
        subst e
        simp
      · simp only [List.mem_cons, insU_mem x z r]
        constructor
        · rintro (h | h | h)
          · exact .inr (.inl h)
          · exact .inl h
          · exact .inr (.inr h)
        · rintro (h | h | h)
          · exact .inr (.inl h)
          · exact .inl h
          · exact .inr (.inr h)
theorem srtU_mem (z : Int) : ∀ l : List Int, z ∈ srtU l ↔ z ∈ l
  | [] => by unfold srtU; simp
  | x :: r => by
    unfold srtU
    rw [insU_mem, srtU_mem z r, List.mem_cons]
theorem insU_lt (x : Int) : ∀ l : List Int, l.Pairwise (· < ·) → (insU x l).Pairwise (· < ·)
  | [], _ => by unfold insU; exact List.pairwise_singleton _ _
  | y :: r, h => by
    obtain ⟨h1, h2⟩ := List.pairwise_cons.mp h
    unfold insU
    split
    · rename_i hxy
      refine List.pairwise_cons.mpr ⟨fun z hz => ?_, h⟩
      rcases List.mem_cons.mp hz with e | hz
      · rw [e]; exact hxy
      · exact Int.lt_trans hxy (h1 z hz)
    · split
      · exact h
      · rename_i hxy hne
        refine List.pairwise_cons.mpr ⟨fun z hz => ?_, insU_lt x r h2⟩
        rcases (insU_mem x z r).mp hz with e | hz
        · rw [e]; omega
        · exact h1 z hz
theorem srtU_lt : ∀ l : List Int, (srtU l).Pairwise (· < ·)
  | [] => .nil
  | x :: r => insU_lt x _ (srtU_lt r)
theorem lt_eq : ∀ {l m : List Int}, (∀ z, z ∈ l ↔ z ∈ m) → l.Pairwise (· < ·) → m.Pairwise (· < ·) → l = m
  | [], [], _, _, _ => rfl
  | [], y :: m, p, _, _ => absurd ((p y).mpr List.mem_cons_self) (by simp)
  | x :: l, [], p, _, _ => absurd ((p x).mp List.mem_cons_self) (by simp)
  | x :: l, y :: m, p, h, k => by
    obtain ⟨h1, h2⟩ := List.pairwise_cons.mp h
    obtain ⟨k1, k2⟩ := List.pairwise_cons.mp k
    have a : x ≤ y := by
      rcases List.mem_cons.mp ((p y).mpr List.mem_cons_self) with e | z
      · rw [e]; exact Int.le_refl _
      · exact Int.le_of_lt (h1 y z)
    have b : y ≤ x := by
      rcases List.mem_cons.mp ((p x).mp List.mem_cons_self) with e | z
      · rw [e]; exact Int.le_refl _
      · exact Int.le_of_lt (k1 x z)
    have e : x = y := by omega
    subst e
    have q : ∀ z, z ∈ l ↔ z ∈ m := fun z => by
      constructor
      · intro hz
        rcases List.mem_cons.mp ((p z).mp (List.mem_cons_of_mem _ hz)) with e | w
        · have := h1 z hz; omega
        · exact w
      · intro hz
        rcases List.mem_cons.mp ((p z).mpr (List.mem_cons_of_mem _ hz)) with e | w
        · have := k1 z hz; omega
        · exact w
    rw [lt_eq q h2 k2]
def gSortSet : PyData → Option (List PyData)
  | .tuple ds => (ints? ds).bind fun ns => if ns.length < 63 then some ((srtU ns).map PyData.int) else none
  | _ => none
theorem ev_sortSet {w0 : World} {te : TE} {f : MX} (e : EvX K te f) : EvN K (tCB (rSortedSet w0) (tCons (tCB (rSetT w0 K) (tCons te tNil)) tNil)) (fUN gSortSet f) := fun ρ π ds π' hf pa H0 F H σ Q w s q => by
  obtain ⟨x, e1, e3⟩ := fUN_some hf
  refine e ρ π x π' e1 pa H0 F H σ _ w s fun v F1 H1 p1 r1 => ?_
  unfold gSortSet at e3
  split at e3
  · rename_i es
    cases e4 : ints? es with
    | none => rw [e4] at e3; cases e3
    | some ns =>
      rw [e4] at e3
      simp only [Option.bind_some] at e3
      split at e3
      · rename_i hz
        cases e3
        obtain ⟨a, vs, rfl, h, r, _⟩ := r1.tup_inv p1.wd
        rw [ints?_some e4] at r
        rw [r.int_inv] at h
        refine ⟨a, ns, rfl, h, by have : (64 : Nat) < scanBound := by decide
                                  omega, fun p c np hc => ?_⟩
        have a1 := p1.wd.addM (o := SetO w0 p (fun j => decide (j ∈ ns)) c) np
        have p2 := p1.trans w a1
        refine ⟨p, _, c, rfl, upd_same, by omega, fun ns' p' so mem _ np' => ?_⟩
        have en : ns' = srtU ns := lt_eq (fun z => by rw [mem z, srtU_mem, decide_eq_true_iff]) so (srtU_lt ns)
        subst en
        exact q p' _ F1 _ (p2.trans w (a1.wd.addM np')) (p2.fresh np') (a1.wd.free np') (a1.wd.pa_ne np') upd_same (RpA.ints _)
      · cases e3
  · cases e3

/-! #### isinstance -/
def tyName : PyData → String
  | .none => "NoneType"
  | .bool _ => "bool"
  | .int _ => "int"
  | .str _ => "str"
  | .list _ => "list"
  | .tuple _ => "tuple"
  | .dict _ => "dict"
theorem tyx_of {pa : Option Addr} {F H : Hp} {π : Pt} {v : V} {d : PyData} (w : Wd pa F H π) (h : RpX K pa F H v d) : TyX K H v (.type (tyName d)) := by
  have lst : ∀ {a : Addr} {xs : List V}, SqL K H a xs → TyX K H (.ref a) (.type "list") := fun {a xs} z => by
    rcases z with (z | ⟨o, z⟩) | ⟨o, its, n, z, c, _⟩
    · exact .base (.lst z)
    · exact .base (.frz z)
    · exact .kList z c
  rcases h with h | ⟨a, vs, ds, rfl, rfl, _, _, h3, _⟩
  · cases h with
    | non => exact .base .non
    | bl b => exact .base (.bl b)
    | int i => exact .base (.int i)
    | str x => exact .base (.str x)
    | lst z r => exact lst (w.same.seq z)
    | tup z r =>
      rcases seqT_mono w.same z with (z | ⟨o, z⟩) | ⟨o, its, n, z, c, _⟩
      · exact .base (.tup z)
      · exact .fTuple z
      · exact .kTuple z c
    | dct z => exact .base (.dK (w.same _ _ z))
  · exact .base (.lst h3)
def gIsi (T : String) : PyData → Option PyData := fun d => (kitB (tyName d) T).map PyData.bool
def fIsi (T : String) (f : MX) : MX := fU (gIsi T) f
theorem ev_isi {te : TE} {f : MX} {T : String} (e : EvX K te f) : EvE K (tCB (rIsi K) (tCons te (tCons (tC (.ty T)) tNil))) (fIsi T f) := fun ρ π d π' hf pa H0 F H σ Q w s q => by
  obtain ⟨x, e1, e3⟩ := fU_some hf
  unfold gIsi at e3
  cases e4 : kitB (tyName x) T with
  | none => rw [e4] at e3; cases e3
  | some b =>
    rw [e4] at e3
    cases e3
    exact e ρ π x π' e1 pa H0 F H σ _ w s fun v F1 H1 p1 r1 => ⟨v, .ty T, _, _, b, rfl, .ty T, tyx_of p1.wd r1, kit_ty e4, q _ F1 H1 p1 (.bl b)⟩
/-- isinstance(x, (T, U)) -/
def gIsi2 (T U : String) : PyData → Option PyData := fun d => (kitB (tyName d) T).bind fun b => if b = true then some (.bool true) else (kitB (tyName d) U).map PyData.bool
theorem ev_isi2 {te : TE} {f : MX} {T U : String} (e : EvX K te f) : EvE K (tCB (rIsiT K) (tCons te (tCons (tTup (tCons (tC (.ty T)) (tCons (tC (.ty U)) tNil))) tNil))) (fU (gIsi2 T U) f) := fun ρ π d π' hf pa H0 F H σ Q w s q => by
  obtain ⟨x, e1, e3⟩ := fU_some hf
  refine e ρ π x π' e1 pa H0 F H σ _ w s fun v F1 H1 p1 r1 => ⟨by show 2 ≤ sizeLine; rw [sizeLine_eq]; decide, fun p np => ?_⟩
  have a1 := p1.wd.add (o := .tup [.ty T, .ty U]) np
  have p2 := p1.trans w a1
  have tx := tyx_of a1.wd (r1.post p1.wd a1)
  have pr : Paired ClsV [.ty T, .ty U] [.type T, .type U] := .cons (.ty T) (.cons (.ty U) .nil)
  unfold gIsi2 at e3
  cases e4 : kitB (tyName x) T with
  | none => rw [e4] at e3; cases e3
  | some b =>
    rw [e4] at e3
    simp only [Option.bind_some] at e3
    cases b with
    | true =>
      rw [if_pos rfl] at e3
      cases e3
      exact ⟨v, p, _, _, _, true, rfl, upd_same, pr, tx, kitAny_cons (r := true) (kit_ty e4) (fun z => nomatch z) (fun _ => rfl), q _ _ _ p2 (.bl true)⟩
    | false =>
      rw [if_neg Bool.false_ne_true] at e3
      cases e5 : kitB (tyName x) U with
      | none => rw [e5] at e3; cases e3
      | some c =>
        rw [e5] at e3
        cases e3
        refine ⟨v, p, _, _, _, c, rfl, upd_same, pr, tx, kitAny_cons (r := c) (kit_ty e4) (fun _ => ?_) (fun z => nomatch z), q _ _ _ p2 (.bl c)⟩
        unfold PySem.W.kitAny
        rw [kit_ty e5]
        cases c <;> rfl

/-! #### repr -/
def rReprX (K : PySem.W.Frag) : List V → Hp → VK → Prop := fun xs H Q => ∃ x pa F π d, xs = [x] ∧ Wd pa F H π ∧ RpX K pa F H x d ∧ d.showable = true ∧ d.depth ≤ 60 ∧ d.shown.length ≤ sizeLine ∧ Q (.str d.shown) H
theorem call_reprX (hg : X.A.guards = some []) (hu : X.A.units + 64 < cLine) : CallR X (.builtin "repr") (rReprX X.K) := by
  intro pins s σ H xs us Q I r h
  obtain ⟨x, pa, F, π, d, rfl, w, hx, hs, hd, hz, q⟩ := h
  obtain ⟨u, rfl, ru⟩ := vals1 r
  obtain ⟨as, hr, hn⟩ := hx.reads I w ru
  cases hr with
  | none => exact PySem.P.repr_of_none ⟨.str _, H, I.tok _, ⟨_, rfl⟩, q⟩
  | bool b => exact PySem.P.repr_of_bool ⟨.str _, H, I.tok _, ⟨_, rfl⟩, q⟩
  | int i t => exact PySem.P.repr_of_int (by simpa [PyData.showable] using hs) ⟨.str _, H, I.tok _, ⟨_, rfl⟩, q⟩
  | str x t => exact PySem.P.repr_of_str ⟨.str _, H, I.tok _, ⟨_, rfl⟩, q⟩ (by simpa only [PyData.shown] using hz)
  | list h1 h2 h3 h4 => exact repr_of_reads' (.list h1 h2 h3 h4) hs (fun _ => hn) hg (by omega) (fun _ _ z => z) (fun h' u tk hk => ⟨.str _, H, I.kept hk, ⟨_, rfl⟩, q⟩) hz
  | tuple h1 h2 h3 h4 => exact repr_of_reads' (.tuple h1 h2 h3 h4) hs (fun _ => hn) hg (by omega) (fun _ _ z => z) (fun h' u tk hk => ⟨.str _, H, I.kept hk, ⟨_, rfl⟩, q⟩) hz
  | dict h1 h2 h3 h4 h5 => exact repr_of_reads' (.dict h1 h2 h3 h4 h5) hs (fun _ => hn) hg (by omega) (fun _ _ z => z) (fun h' u tk hk => ⟨.str _, H, I.kept hk, ⟨_, rfl⟩, q⟩) hz
def gRepr : PyData → Option PyData := fun d => if d.showable = true ∧ d.depth ≤ 60 ∧ d.shown.length ≤ sizeLine then some (.str d.shown) else none
theorem sim_repr : SimC1 K (rReprX K) gRepr := by
  intro pa F H π x dx d Q w rx e q
  unfold gRepr at e
  split at e
  · rename_i hz
    cases e
    exact ⟨x, pa, F, π, dx, rfl, w, rx, hz.1, hz.2.1, hz.2.2, q _ F H (.refl w) (.str _)⟩
  · cases e

def gTupRange : PyData → Option PyData
  | .int n => if 0 ≤ n ∧ n ≤ 1000 then some (.tuple (upTo 0 n.toNat)) else none
  | _ => none
theorem RpA.upTo {F : Hp} (lo : Int) : ∀ n : Nat, RpA K F ((List.range n).map fun (i : Nat) => V.int (lo + (i : Int))) (DL.upTo lo n) := fun n => by
  unfold DL.upTo
  have e1 : ((List.range n).map fun (i : Nat) => V.int (lo + (i : Int))) = ((List.range n).map fun (i : Nat) => lo + (i : Int)).map V.int := by rw [List.map_map]; rfl
  have e2 : ((List.range n).map fun (i : Nat) => PyData.int (lo + (i : Int))) = ((List.range n).map fun (i : Nat) => lo + (i : Int)).map PyData.int := by rw [List.map_map]; rfl
  rw [e1, e2]
  exact RpA.ints _
def fDict0 : MX := fun _ π => some (.dict [], π)
theorem ev_dict0 : EvE K tDNewK fDict0 := fun ρ π d π' hf pa H0 F H σ Q w s q => by
  cases hf
  intro p np
  exact q (.ref p) _ _ (w.add (o := .dK []) np) (.dct upd_same)
end
end DL

set_option maxHeartbeats 2000000
namespace DL
open PySem PySem.Spec PyProof.Rows L2
set_option autoImplicit false

/-! #### targets -/
def wipeE (ρ : Ev) : List Nat → Ev
  | [] => ρ
  | v :: vs => (wipeE ρ vs).set v .e
section
variable {K : PySem.W.Frag} {pa : Option Addr} {H0 F H F' H' : Hp} {π π' : Pt} {σ : St} {ρ : Ev}
theorem StOk.setE {i : Nat} {o : Option V} (h : StOk K pa H0 F H σ ρ) : StOk K pa H0 F H (σ.set i o) (ρ.set i .e) := by
  refine ⟨by rw [List.length_set, List.length_set]; exact h.len, fun j s e => ?_, fun j k xs ys ne e1 e2 => ?_⟩
  · by_cases hj : i = j
    · subst hj
      by_cases hl : i < ρ.length
      · rw [List.getElem?_set_self hl] at e
        cases e
        trivial
      · rw [List.getElem?_eq_none (by rw [List.length_set]; omega)] at e
        cases e
    · rw [List.getElem?_set_ne hj] at e
      rw [List.getD_eq_getElem?_getD, List.getElem?_set_ne hj, ← List.getD_eq_getElem?_getD]
      exact h.at_ j s e
  · have out : ∀ {l : Nat} {us : List PyData}, (ρ.set i .e)[l]? = some (.m us) → i ≠ l := fun {l us} q z => by
      subst z
      by_cases hl : i < ρ.length
      · rw [List.getElem?_set_self hl] at q; cases q
      · rw [List.getElem?_eq_none (by rw [List.length_set]; omega)] at q; cases q
    have hj := out e1
    have hk := out e2
    rw [List.getElem?_set_ne hj] at e1
    rw [List.getElem?_set_ne hk] at e2
    have q := h.apart j k xs ys ne e1 e2
    rw [List.getD_eq_getElem?_getD, List.getD_eq_getElem?_getD, List.getElem?_set_ne hj, List.getElem?_set_ne hk, ← List.getD_eq_getElem?_getD, ← List.getD_eq_getElem?_getD]
    exact q
theorem StOk.wipe (h : StOk K pa H0 F H σ ρ) : ∀ vs : List Nat, StOk K pa H0 F H (L2.wipe σ vs) (wipeE ρ vs)
  | [] => h
  | v :: vs => (StOk.wipe h vs).setE
theorem wipe_set {i : Nat} {o : Option V} : ∀ {vs : List Nat} {σ : St}, i ∈ vs → L2.wipe (σ.set i o) vs = L2.wipe σ vs
  | [], _, h => absurd h (by simp)
  | v :: vs, σ, h => by
    show (L2.wipe (σ.set i o) vs).set v none = (L2.wipe σ vs).set v none
    by_cases hv : i ∈ vs
    · rw [wipe_set hv]
    · have e : v = i := ((List.mem_cons.mp h).resolve_right hv).symm
      subst e
      have q : ∀ {us : List Nat} {τ : St}, v ∉ us → L2.wipe (τ.set v o) us = (L2.wipe τ us).set v o := by
        intro us
        induction us with
        | nil => intro τ _; rfl
        | cons u us ih =>
          intro τ hu
          have h1 : v ≠ u := fun z => hu (by rw [z]; exact List.mem_cons_self)
          have h2 : v ∉ us := fun z => hu (List.mem_cons_of_mem _ z)
          show (L2.wipe (τ.set v o) us).set u none = ((L2.wipe τ us).set u none).set v o
          rw [ih h2, List.set_comm _ _ h1]
      rw [q hv, List.set_set]
end
abbrev MG := PyData → Ev → Option Ev
/-- a target, for settled data; it stores at names of vs alone -/
def EvG (K : PySem.W.Frag) (g : TG) (vs : List Nat) (t : MG) : Prop := ∀ x ρ ρ', t x ρ = some ρ' → ∀ pa H0 F H π σ v Q, Wd pa F H π → StOk K pa H0 F H σ ρ → Rp K F v x →
  (∀ σ', StOk K pa H0 F H σ' ρ' → L2.wipe σ' vs = L2.wipe σ vs → Q σ' H) → g v σ H Q
def EvGs (K : PySem.W.Frag) (g : TGs) (vs : List Nat) (t : List PyData → Ev → Option Ev) : Prop := ∀ xs ρ ρ', t xs ρ = some ρ' → ∀ pa H0 F H π σ ws Q, Wd pa F H π → StOk K pa H0 F H σ ρ → RpA K F ws xs →
  (∀ σ', StOk K pa H0 F H σ' ρ' → L2.wipe σ' vs = L2.wipe σ vs → Q σ' H) → g ws σ H Q
section
variable {K : PySem.W.Frag} {vs : List Nat}
def tName (i : Nat) : MG := fun x ρ => some (ρ.set i (.d x))
theorem evg_name {i : Nat} (hi : i ∈ vs) : EvG K (gName i) vs (tName i) := fun x ρ ρ' e pa H0 F H π σ v Q w s r q => by
  cases e
  exact q _ (s.setD r) (wipe_set hi)
def tsNil : List PyData → Ev → Option Ev
  | [], ρ => some ρ
  | _, _ => none
def tsCons (t : MG) (u : List PyData → Ev → Option Ev) : List PyData → Ev → Option Ev
  | x :: xs, ρ => (t x ρ).bind (u xs)
  | _, _ => none
theorem evgs_nil : EvGs K gNil vs tsNil := fun xs ρ ρ' e pa H0 F H π σ ws Q w s r q => by
  cases xs with
  | nil =>
    cases e
    cases r
    exact ⟨rfl, q σ s rfl⟩
  | cons x xs => cases e
theorem evgs_cons {g : TG} {gs : TGs} {t : MG} {u : List PyData → Ev → Option Ev} (h1 : EvG K g vs t) (h2 : EvGs K gs vs u) : EvGs K (gCons g gs) vs (tsCons t u) := fun xs ρ ρ' e pa H0 F H π σ ws Q w s r q => by
  cases xs with
  | nil => cases e
  | cons x xs =>
    cases r with
    | cons r rr =>
      have e : (t x ρ).bind (u xs) = some ρ' := e
      cases e1 : t x ρ with
      | none => rw [e1] at e; cases e
      | some ρ1 =>
        rw [e1] at e
        refine ⟨_, _, rfl, h1 x ρ ρ1 e1 pa H0 F H π σ _ _ w s r fun σ1 s1 w1 => ?_⟩
        exact h2 xs ρ1 ρ' e pa H0 F H π σ1 _ _ w s1 rr fun σ2 s2 w2 => q σ2 s2 (w2.trans w1)
def tTupG (u : List PyData → Ev → Option Ev) (n : Nat) : MG := fun x ρ => match x with
  | .tuple xs => if xs.length = n then u xs ρ else none
  | _ => none
theorem evg_tup {gs : TGs} {u : List PyData → Ev → Option Ev} {n : Nat} (h : EvGs K gs vs u) : EvG K (gTup K n gs) vs (tTupG u n) := fun x ρ ρ' e pa H0 F H π σ v Q w s r q => by
  unfold tTupG at e
  split at e
  · rename_i xs
    split at e
    · rename_i hn
      obtain ⟨a, us, rfl, hs, ra⟩ := r.tup_inv
      exact ⟨a, us, rfl, seqT_mono w.same hs, by rw [ra.length]; exact hn, h xs ρ ρ' e pa H0 F H π σ us Q w s ra q⟩
    · cases e
  · cases e

def lcM (own : List Nat) (t : MG) (b : MT) (f : MX) (ρ : Ev) : List PyData → Pt → Option (List PyData × Pt)
  | [], π => some ([], π)
  | x :: xs, π => (t x (wipeE ρ own)).bind fun ρ1 => (b ρ1 π).bind fun (ok, π1) =>
      if ok = true then (f ρ1 π1).bind fun (y, π2) => (lcM own t b f ρ xs π2).map fun (ys, π3) => (y :: ys, π3)
      else lcM own t b f ρ xs π1
def fLc (it : ML) (own : List Nat) (t : MG) (b : MT) (f : MX) : ML := fun ρ π => (it ρ π).bind fun (ds, π1) => if ds.length ≤ sizeLine then lcM own t b f ρ ds π1 else none
theorem evt_yes : EvT K tYes (fun _ π => some (true, π)) := fun ρ π b π' hf pa H0 F H σ Q w s q => by
  cases hf; exact q F H (.refl w)
/-- an own object is written meanwhile -/
theorem Post.write {pa : Option Addr} {F1 H1 F H : Hp} {π π1 : Pt} {D : Addr} {o : HO} (w1 : Wd pa F1 H1 π1) (p : Post pa F1 H1 F H π) (n1 : H1 D = none) (nF : F D = none) (np : pa ≠ some D) : Post pa F1 H1 F (upd H D o) π where
  ff := p.ff
  wd := ⟨same_upd2 p.wd.same nF, by
      obtain ⟨u, q, r⟩ := w1.sys
      obtain ⟨u2, q2, r2⟩ := p.wd.sys
      exact ⟨u2, by rw [upd_ne (ne_of_none q n1)]; exact q2, r2⟩, fun a e => by
      obtain ⟨q1, q2⟩ := p.wd.pot a e
      have ne : a ≠ D := fun z => np (by rw [← z]; exact e)
      exact ⟨q1, by rw [upd_ne ne]; exact q2⟩⟩
  keep := fun b x e n => by rw [upd_ne (ne_of_none e n1)]; exact p.keep b x e n
  new := p.new
theorem ev_lc {wi : TI} {g : TG} {tt : TT} {te : TE} {it : ML} {own : List Nat} {t : MG} {b : MT} {f : MX} (ei : EvI K wi it) (eg : EvG K g own t) (et : EvT K tt b) (ee : EvE K te f) : EvN K (tLc wi g tt te own) (fLc it own t b f) := fun ρ π ds π' hf pa H0 F H σ Q w s q => by
  unfold fLc at hf
  cases e1 : it ρ π with
  | none => rw [e1] at hf; cases hf
  | some o1 =>
    obtain ⟨es, π1⟩ := o1
    rw [e1] at hf
    simp only [Option.bind_some] at hf
    split at hf
    · rename_i hz
      refine ei ρ π es π1 e1 pa H0 F H σ _ w s fun J F1 H1 p1 ok D nD => ?_
      have s1 := s.post w p1
      have nDF : F1 D = none := p1.wd.free nD
      have npa : pa ≠ some D := p1.wd.pa_ne nD
      refine ⟨fun i m Hc => m = es.length - i ∧ i ≤ es.length ∧ ∃ (Fc : Hp) (πc : Pt) (avs : List V) (ads rest : List PyData), Post pa F1 H1 Fc Hc πc ∧ Hc D = some (.lst avs) ∧ Fc D = none ∧ RpA K Fc avs ads ∧ ads.length ≤ i ∧
        lcM own t b f ρ (es.drop i) πc = some (rest, π') ∧ ads ++ rest = ds, ⟨es.length, by simp, Nat.zero_le _, F1, π1, [], [], ds, ?_, upd_same, nDF, .nil, Nat.le_refl _, by rw [List.drop_zero]; exact hf, rfl⟩, ?_⟩
      · exact (Post.refl p1.wd).write p1.wd nD nDF npa
      rintro i m Hc ⟨rfl, hi, Fc, πc, avs, ads, rest, pc, hD, nF, ra, hl, hm, er⟩
      by_cases hlt : i < es.length
      · refine .inr ⟨ok.go pa i Fc Hc πc hlt pc.ff pc.wd, fun Hn => ∃ (Fc : Hp) (πc : Pt) (avs : List V) (ads rest : List PyData), Post pa F1 H1 Fc Hn πc ∧ Hn D = some (.lst avs) ∧ Fc D = none ∧ RpA K Fc avs ads ∧ ads.length ≤ i + 1 ∧
          lcM own t b f ρ (es.drop (i + 1)) πc = some (rest, π') ∧ ads ++ rest = ds, fun Hn hn => ⟨es.length - (i + 1), by omega, rfl, hlt, hn⟩, fun x Hx hy => ?_⟩
        have ed : es.drop i = es[i] :: es.drop (i + 1) := List.drop_eq_getElem_cons hlt
        obtain ⟨Fx, px, rx⟩ := ok.yld pa i Fc Hc πc x Hx es[i] (List.getElem?_eq_getElem hlt) pc.ff pc.wd hy
        rw [ed] at hm
        unfold lcM at hm
        cases e2 : t es[i] (wipeE ρ own) with
        | none => rw [e2] at hm; cases hm
        | some ρ1 =>
          rw [e2] at hm
          simp only [Option.bind_some] at hm
          have pcx := pc.trans p1.wd px
          have sx := (s1.post p1.wd pcx).wipe own
          refine eg es[i] (wipeE ρ own) ρ1 e2 pa H0 Fx Hx πc _ x _ px.wd sx rx fun σ2 s2 w2 => ⟨?_, ?_⟩
          · rw [w2]
            have ww : ∀ (us : List Nat), (∀ u ∈ us, u ∈ own) → L2.wipe (L2.wipe σ own) us = L2.wipe σ own := by
              intro us
              induction us with
              | nil => intro _; rfl
              | cons u us ih =>
                intro hu
                show (L2.wipe (L2.wipe σ own) us).set u none = L2.wipe σ own
                rw [ih fun v hv => hu v (List.mem_cons_of_mem _ hv)]
                have hmem := hu u List.mem_cons_self
                have set_none : ∀ {vs : List Nat}, u ∈ vs → (L2.wipe σ vs).set u none = L2.wipe σ vs := by
                  intro vs
                  induction vs with
                  | nil => intro z; exact absurd z (by simp)
                  | cons v vs ih2 =>
                    intro z
                    show ((L2.wipe σ vs).set v none).set u none = (L2.wipe σ vs).set v none
                    by_cases huv : u = v
                    · subst huv; rw [List.set_set]
                    · rw [List.set_comm _ _ (Ne.symm huv), ih2 ((List.mem_cons.mp z).resolve_left huv)]
                exact set_none hmem
            exact ww own fun _ z => z
          cases e3 : b ρ1 πc with
          | none => rw [e3] at hm; cases hm
          | some o3 =>
            obtain ⟨k, π2⟩ := o3
            rw [e3] at hm
            simp only [Option.bind_some] at hm
            have keepD : ∀ {F2 H2 : Hp} {π2 : Pt}, Post pa Fx Hx F2 H2 π2 → Hx D = some (.lst avs) → Fx D = none → H2 D = some (.lst avs) ∧ F2 D = none := fun {F2 H2 π2} pp h1 h2 => by
              refine ⟨pp.keep D _ h1 npa, ?_⟩
              cases z : F2 D with
              | none => rfl
              | some u =>
                rcases pp.new D u z with y | y
                · rw [h2] at y; cases y
                · rw [h1] at y; cases y
            have hDx : Hx D = some (.lst avs) ∧ Fx D = none := by
              refine ⟨px.keep D _ hD npa, ?_⟩
              cases z : Fx D with
              | none => rfl
              | some u =>
                rcases px.new D u z with y | y
                · rw [nF] at y; cases y
                · rw [hD] at y; cases y
            refine et ρ1 πc k π2 e3 pa H0 Fx Hx σ2 _ px.wd s2 fun F2 H2 p2 => ?_
            have pc2 := pcx.trans p1.wd p2
            have hD2 := keepD p2 hDx.1 hDx.2
            cases k with
            | false =>
              rw [if_neg Bool.false_ne_true] at hm ⊢
              exact ⟨F2, π2, avs, ads, rest, pc2, hD2.1, hD2.2, (ra.mono px.ff).mono p2.ff, Nat.le_succ_of_le hl, hm, er⟩
            | true =>
              rw [if_pos rfl] at hm ⊢
              cases e4 : f ρ1 π2 with
              | none => rw [e4] at hm; cases hm
              | some o4 =>
                obtain ⟨y, π3⟩ := o4
                rw [e4] at hm
                simp only [Option.bind_some] at hm
                cases e5 : lcM own t b f ρ (es.drop (i + 1)) π3 with
                | none => rw [e5] at hm; cases hm
                | some o5 =>
                  obtain ⟨ys, π4⟩ := o5
                  rw [e5] at hm
                  cases hm
                  refine ee ρ1 π2 y π3 e4 pa H0 F2 H2 σ2 _ p2.wd (s2.post px.wd p2) fun yv F3 H3 p3 r3 => ?_
                  have p23 := p2.trans px.wd p3
                  have hD3 := keepD p23 hDx.1 hDx.2
                  have pc3 := pcx.trans p1.wd p23
                  have ra3 : RpA K F3 avs ads := (ra.mono px.ff).mono p23.ff
                  refine ⟨avs, hD3.1, ?_, F3, π3, avs ++ [yv], ads ++ [y], ys, pc3.write p1.wd nD hD3.2 npa, upd_same, hD3.2, ra3.append (.cons r3 .nil), ?_, e5, ?_⟩
                  · rw [ra3.length]; omega
                  · rw [List.length_append]; exact Nat.succ_le_succ hl
                  · rw [List.append_assoc]; exact er
      · have ei : i = es.length := by omega
        subst ei
        rw [List.drop_length] at hm
        cases hm
        rw [List.append_nil] at er
        subst er
        refine .inl ⟨ok.stop pa Fc Hc _ pc.ff pc.wd, ?_⟩
        exact q D avs Fc Hc (p1.trans w pc) (p1.fresh nD) nF npa hD ra
    · cases hf
end
end DL

set_option maxHeartbeats 2000000
namespace DL
open PySem PySem.Spec PyProof.Rows L2
set_option autoImplicit false

inductive Out where
  | nx (ρ : Ev)
  | rt (d : PyData)
  | bk (ρ : Ev)
  | ct (ρ : Ev)
abbrev MS := Ev → Pt → Option (Out × Pt)

/-- how the heap lies since the def's entry (F0, H0), its pot then at pa0 -/
structure EndS (pa0 : Option Addr) (F0 H0 : Hp) (pa : Option Addr) (F H : Hp) (π : Pt) : Prop where
  ff : Same F0 F
  new : ∀ b o, F b = some o → F0 b = some o ∨ H0 b = none
  keep : ∀ b o, H0 b = some o → pa0 ≠ some b → H b = some o
  wd : Wd pa F H π
  pt : pa = pa0 ∨ (pa0 = none ∧ ∀ a, pa = some a → H0 a = none)
structure InvS (K : PySem.W.Frag) (pa0 : Option Addr) (F0 H0 : Hp) (pa : Option Addr) (F H : Hp) (π : Pt) (σ : St) (ρ : Ev) : Prop where
  e : EndS pa0 F0 H0 pa F H π
  s : StOk K pa H0 F H σ ρ
section
variable {K : PySem.W.Frag} {pa0 pa : Option Addr} {F0 H0 F H F' H' : Hp} {π π' : Pt} {σ : St} {ρ : Ev}
theorem EndS.step (e : EndS pa0 F0 H0 pa F H π) (p : Post pa F H F' H' π') : EndS pa0 F0 H0 pa F' H' π' where
  ff := e.ff.trans p.ff
  new := fun b o h => by
    rcases p.new b o h with z | z
    · exact e.new b o z
    · refine .inr ?_
      cases q : H0 b with
      | none => rfl
      | some u =>
        by_cases n : pa0 = some b
        · rcases e.pt with y | ⟨y, _⟩
          · obtain ⟨_, w⟩ := e.wd.pot b (y.trans n)
            rw [z] at w; cases w
          · rw [y] at n; cases n
        · rw [e.keep b u q n] at z; cases z
  keep := fun b o h n => by
    refine p.keep b o (e.keep b o h n) ?_
    rcases e.pt with y | ⟨y, w⟩
    · rw [y]; exact n
    · intro z
      rw [w b z] at h; cases h
  wd := p.wd
  pt := e.pt
theorem EndS.start (w : Wd pa0 F0 H0 π) : EndS pa0 F0 H0 pa0 F0 H0 π := ⟨Same.refl _, fun _ _ h => .inl h, fun _ _ h _ => h, w, .inl rfl⟩
theorem EndS.post (e : EndS pa0 F0 H0 pa F H π) : Post pa0 F0 H0 F H π where
  ff := e.ff
  wd := by
    rcases e.pt with y | ⟨y, _⟩
    · rw [← y]; exact e.wd
    · subst y
      exact ⟨e.wd.same, e.wd.sys, fun a z => nomatch z⟩
  keep := e.keep
  new := e.new
/-- what is new now was new at the entry -/
theorem EndS.fresh (e : EndS pa0 F0 H0 pa F H π) {a : Addr} (h : H a = none) : H0 a = none := e.post.fresh h
theorem InvS.step (i : InvS K pa0 F0 H0 pa F H π σ ρ) (p : Post pa F H F' H' π') : InvS K pa0 F0 H0 pa F' H' π' σ ρ := ⟨i.e.step p, i.s.post i.e.wd p⟩
end

section
variable (K : PySem.W.Frag)
/-- what D wants holds wherever o has come -/
def OutK (pa0 : Option Addr) (F0 H0 Fs : Hp) (π' : Pt) (o : Out) (D : Ends) : Prop :=
  match o with
  | .nx ρ' => ∀ pa F H σ, InvS K pa0 F0 H0 pa F H π' σ ρ' → Same Fs F → D.nx σ H
  | .bk ρ' => ∀ pa F H σ, InvS K pa0 F0 H0 pa F H π' σ ρ' → Same Fs F → D.bk σ H
  | .ct ρ' => ∀ pa F H σ, InvS K pa0 F0 H0 pa F H π' σ ρ' → Same Fs F → D.ct σ H
  | .rt d => ∀ pa F H v, EndS pa0 F0 H0 pa F H π' → Rp K F v d → Same Fs F → D.rt v H
def EvS (ts : TS) (g : MS) : Prop := ∀ ρ π o π', g ρ π = some (o, π') → ∀ pa0 F0 H0 pa F H σ D, InvS K pa0 F0 H0 pa F H π σ ρ → OutK K pa0 F0 H0 F π' o D → ts D σ H
end
theorem OutK.later {K : PySem.W.Frag} {pa0 : Option Addr} {F0 H0 Fs Ft : Hp} {π' : Pt} {o : Out} {D : Ends} (q : OutK K pa0 F0 H0 Fs π' o D) (s : Same Fs Ft) : OutK K pa0 F0 H0 Ft π' o D := by
  cases o with
  | nx ρ' => exact fun pa F H σ i z => q pa F H σ i (s.trans z)
  | bk ρ' => exact fun pa F H σ i z => q pa F H σ i (s.trans z)
  | ct ρ' => exact fun pa F H σ i z => q pa F H σ i (s.trans z)
  | rt d => exact fun pa F H v i r z => q pa F H v i r (s.trans z)
section
variable {K : PySem.W.Frag} {te : TE} {ts tu : TS} {f : MX} {g h : MS} {l : ML} {b : MT} {tt : TT}
def sNil : MS := fun ρ π => some (.nx ρ, π)
def sSeq (g h : MS) : MS := fun ρ π => (g ρ π).bind fun (o, π1) => match o with
  | .nx ρ1 => h ρ1 π1
  | .rt d => some (.rt d, π1)
  | .bk ρ1 => some (.bk ρ1, π1)
  | .ct ρ1 => some (.ct ρ1, π1)
theorem evs_nil : EvS K tNext sNil := fun ρ π o π' hf pa0 F0 H0 pa F H σ D i q => by
  cases hf; exact q pa F H σ i (Same.refl _)
theorem evs_seq (e1 : EvS K ts g) (e2 : EvS K tu h) : EvS K (tSeq ts tu) (sSeq g h) := fun ρ π o π' hf pa0 F0 H0 pa F H σ D i q => by
  unfold sSeq at hf
  cases eg : g ρ π with
  | none => rw [eg] at hf; cases hf
  | some r =>
    obtain ⟨o1, π1⟩ := r
    rw [eg] at hf
    simp only [Option.bind_some] at hf
    refine e1 ρ π o1 π1 eg pa0 F0 H0 pa F H σ { D with nx := tu D } i ?_
    cases o1 with
    | nx ρ1 => exact fun pa' F' H' σ' i' z => e2 ρ1 π1 o π' hf pa0 F0 H0 pa' F' H' σ' D i' (q.later z)
    | rt d => cases hf; exact q
    | bk ρ1 => cases hf; exact q
    | ct ρ1 => cases hf; exact q
/-- name = settled data -/
def sSet (i : Nat) (f : MX) : MS := fun ρ π => (f ρ π).map fun (x, π1) => (.nx (ρ.set i (.d x)), π1)
theorem evs_set {i : Nat} (e : EvE K te f) : EvS K (tAsg te (gName i)) (sSet i f) := fun ρ π o π' hf pa0 F0 H0 pa F H σ D iv q => by
  unfold sSet at hf
  cases ef : f ρ π with
  | none => rw [ef] at hf; cases hf
  | some r =>
    obtain ⟨x, π1⟩ := r
    rw [ef] at hf
    cases hf
    exact e ρ π x _ ef pa H0 F H σ _ iv.e.wd iv.s fun v F' H' p r => q pa F' H' _ ⟨iv.e.step p, (iv.s.post iv.e.wd p).setD r⟩ p.ff
theorem own_apart {pa : Option Addr} {H0 F H : Hp} {σ : St} {ρ : Ev} {a : Addr} (s : StOk K pa H0 F H σ ρ) (ha : H a = none) (i : Nat) : ∀ j ys, j ≠ i → ρ[j]? = some (.m ys) → σ.getD j none ≠ some (.ref a) := fun j ys _ e z => by
  obtain ⟨c, vs, e1, _, _, _, h3, _⟩ := s.at_ j _ e
  rw [z] at e1
  cases e1
  rw [ha] at h3
  cases h3
/-- name = a new list, kept as an own one -/
def sSetM (i : Nat) (l : ML) : MS := fun ρ π => (l ρ π).map fun (x, π1) => (.nx (ρ.set i (.m x)), π1)
theorem evs_setM {i : Nat} (e : EvN K te l) : EvS K (tAsg te (gName i)) (sSetM i l) := fun ρ π o π' hf pa0 F0 H0 pa F H σ D iv q => by
  unfold sSetM at hf
  cases ef : l ρ π with
  | none => rw [ef] at hf; cases hf
  | some r =>
    obtain ⟨x, π1⟩ := r
    rw [ef] at hf
    cases hf
    refine e ρ π x _ ef pa H0 F H σ _ iv.e.wd iv.s fun a vs F' H' p ha hF hp hH r => q pa F' H' _ ⟨iv.e.step p, ?_⟩ p.ff
    exact (iv.s.post iv.e.wd p).setM (iv.e.fresh ha) hF hp hH r (own_apart iv.s ha i)
/-- name = a new pot, in a def that was given none -/
def noPot (ρ : Ev) (i : Nat) : Bool := (List.range ρ.length).all fun j => decide (j = i) || (match ρ[j]? with
  | some .p => false
  | _ => true)
def sSetP (i : Nat) (l : ML) : MS := fun ρ π => (l ρ π).bind fun (x, _) => match x with
  | [.int a, .int b] => if noPot ρ i = true ∧ i < ρ.length then some (.nx (ρ.set i .p), (a, b)) else none
  | _ => none
theorem evs_setP {i : Nat} (e : EvN K te l) : ∀ ρ π o π', sSetP i l ρ π = some (o, π') → ∀ F0 H0 pa F H σ D, InvS K none F0 H0 pa F H π σ ρ → OutK K none F0 H0 F π' o D → tAsg te (gName i) D σ H := fun ρ π o π' hf F0 H0 pa F H σ D iv q => by
  unfold sSetP at hf
  cases ef : l ρ π with
  | none => rw [ef] at hf; cases hf
  | some r =>
    obtain ⟨x, π1⟩ := r
    rw [ef] at hf
    simp only [Option.bind_some] at hf
    split at hf
    · rename_i a b
      split at hf
      · rename_i hn
        cases hf
        refine e ρ π _ _ ef pa H0 F H σ _ iv.e.wd iv.s fun A vs F' H' p ha hF hp hH r => q (some A) F' H' _ ⟨?_, ?_⟩ p.ff
        · have e1 := iv.e.step p
          have ev : vs = [.int a, .int b] := by
            cases r with
            | cons r1 t => cases t with
              | cons r2 t2 =>
                cases t2
                rw [r1.int_inv, r2.int_inv]
          subst ev
          refine ⟨e1.ff, e1.new, e1.keep, ⟨e1.wd.same, e1.wd.sys, fun c z => ?_⟩, .inr ⟨rfl, fun c z => ?_⟩⟩
          · cases z; exact ⟨hF, hH⟩
          · cases z; exact iv.e.fresh ha
        · have s1 := iv.s.post iv.e.wd p
          refine ⟨by rw [List.length_set, List.length_set]; exact s1.len, fun j s ej => ?_, fun j k xs ys ne e1 e2 => ?_⟩
          · by_cases hj : i = j
            · subst hj
              rw [List.getElem?_set_self hn.2] at ej
              cases ej
              exact ⟨A, by rw [List.getD_eq_getElem?_getD, List.getElem?_set_self (by rw [s1.len]; exact hn.2)]; rfl, rfl⟩
            · rw [List.getElem?_set_ne hj] at ej
              rw [List.getD_eq_getElem?_getD, List.getElem?_set_ne hj, ← List.getD_eq_getElem?_getD]
              have z := s1.at_ j s ej
              cases s with
              | e => trivial
              | d x => exact z
              | m xs =>
                obtain ⟨c, us, z1, z0, z2, z3, z4, z5⟩ := z
                refine ⟨c, us, z1, z0, z2, fun zz => ?_, z4, z5⟩
                cases zz
                exact own_apart iv.s ha i j xs (Ne.symm hj) ej z1
              | p =>
                have q1 := hn.1
                unfold noPot at q1
                have hjl : j < ρ.length := (List.getElem?_eq_some_iff.mp ej).1
                have q2 := (List.all_eq_true.mp q1) j (List.mem_range.mpr hjl)
                rw [ej] at q2
                simp only [Bool.or_false, decide_eq_true_eq] at q2
                exact absurd q2.symm hj
          · have out : ∀ {m : Nat} {us : List PyData}, (ρ.set i .p)[m]? = some (.m us) → i ≠ m := fun {m us} z y => by
              subst y
              rw [List.getElem?_set_self hn.2] at z
              cases z
            have hj := out e1
            have hk := out e2
            rw [List.getElem?_set_ne hj] at e1
            rw [List.getElem?_set_ne hk] at e2
            have z := s1.apart j k xs ys ne e1 e2
            rw [List.getD_eq_getElem?_getD, List.getD_eq_getElem?_getD, List.getElem?_set_ne hj, List.getElem?_set_ne hk, ← List.getD_eq_getElem?_getD, ← List.getD_eq_getElem?_getD]
            exact z
      · cases hf
    · cases hf
/-- an own list is settled (nothing is done) -/
def sFrz (i : Nat) (g : MS) : MS := fun ρ π => match ρ[i]? with
  | some (.m xs) => g (ρ.set i (.d (.list xs))) π
  | _ => none
theorem evs_frz {i : Nat} (e : EvS K ts g) : EvS K ts (sFrz i g) := fun ρ π o π' hf pa0 F0 H0 pa F H σ D iv q => by
  unfold sFrz at hf
  split at hf
  · rename_i xs ei
    obtain ⟨a, vs, ea, h0, h1, h2, h3, h4⟩ := iv.s.own ei
    obtain ⟨s1, w1⟩ := iv.e.wd.settle h1 h2 h3
    refine e _ π o π' hf pa0 F0 H0 pa (upd F a (.lst vs)) H σ D ⟨⟨iv.e.ff.trans s1, fun c u hc => ?_, iv.e.keep, w1, iv.e.pt⟩, iv.s.settleM ei ea h3 h4 h1⟩ (q.later s1)
    by_cases hca : c = a
    · subst hca; exact .inr h0
    · rw [upd_ne hca] at hc; exact iv.e.new c u hc
  · cases hf
def sRet (f : MX) : MS := fun ρ π => (f ρ π).map fun (x, π1) => (.rt x, π1)
theorem evs_ret (e : EvE K te f) : EvS K (tRet te) (sRet f) := fun ρ π o π' hf pa0 F0 H0 pa F H σ D iv q => by
  unfold sRet at hf
  cases ef : f ρ π with
  | none => rw [ef] at hf; cases hf
  | some r =>
    obtain ⟨x, π1⟩ := r
    rw [ef] at hf
    cases hf
    exact e ρ π x _ ef pa H0 F H σ _ iv.e.wd iv.s fun v F' H' p r => q pa F' H' v (iv.e.step p) r p.ff
def sRetN : MS := fun _ π => some (.rt .none, π)
theorem evs_retN : EvS K tRetN sRetN := fun ρ π o π' hf pa0 F0 H0 pa F H σ D iv q => by
  cases hf; exact q pa F H .non iv.e .non (Same.refl _)
def sIf (b : MT) (g h : MS) : MS := fun ρ π => (b ρ π).bind fun (k, π1) => if k = true then g ρ π1 else h ρ π1
theorem evs_if (e : EvT K tt b) (e1 : EvS K ts g) (e2 : EvS K tu h) : EvS K (tIfS tt ts tu) (sIf b g h) := fun ρ π o π' hf pa0 F0 H0 pa F H σ D iv q => by
  unfold sIf at hf
  cases eb : b ρ π with
  | none => rw [eb] at hf; cases hf
  | some r =>
    obtain ⟨k, π1⟩ := r
    rw [eb] at hf
    simp only [Option.bind_some] at hf
    refine e ρ π k π1 eb pa H0 F H σ _ iv.e.wd iv.s fun F' H' p => ?_
    cases k with
    | true =>
      rw [if_pos rfl] at hf ⊢
      exact e1 ρ π1 o π' hf pa0 F0 H0 pa F' H' σ D (iv.step p) (q.later p.ff)
    | false =>
      rw [if_neg Bool.false_ne_true] at hf ⊢
      exact e2 ρ π1 o π' hf pa0 F0 H0 pa F' H' σ D (iv.step p) (q.later p.ff)
def sBrk : MS := fun ρ π => some (.bk ρ, π)
def sCnt : MS := fun ρ π => some (.ct ρ, π)
theorem evs_brk : EvS K tBreak sBrk := fun ρ π o π' hf pa0 F0 H0 pa F H σ D iv q => by cases hf; exact q pa F H σ iv (Same.refl _)
theorem evs_cnt : EvS K tCont sCnt := fun ρ π o π' hf pa0 F0 H0 pa F H σ D iv q => by cases hf; exact q pa F H σ iv (Same.refl _)
/-- a value dropped -/
def sDrop (f : MX) : MS := fun ρ π => (f ρ π).map fun (_, π1) => (.nx ρ, π1)
theorem evs_drop (e : EvX K te f) : EvS K (tDrop te) (sDrop f) := fun ρ π o π' hf pa0 F0 H0 pa F H σ D iv q => by
  unfold sDrop at hf
  cases ef : f ρ π with
  | none => rw [ef] at hf; cases hf
  | some r =>
    obtain ⟨x, π1⟩ := r
    rw [ef] at hf
    cases hf
    exact e ρ π x _ ef pa H0 F H σ _ iv.e.wd iv.s fun v F' H' p r => q pa F' H' σ (iv.step p) p.ff

/-! #### own lists changed -/
theorem own_write {pa0 pa : Option Addr} {F0 H0 F H : Hp} {π : Pt} {σ : St} {ρ : Ev} {i : Nat} {a : Addr} {vs vs' : List V} {xs xs' : List PyData} (iv : InvS K pa0 F0 H0 pa F H π σ ρ) (e : ρ[i]? = some (.m xs)) (ea : σ[i]? = some (some (.ref a)))
    (h0 : H0 a = none) (h1 : F a = none) (h2 : pa ≠ some a) (h3 : H a = some (.lst vs)) (r : RpA K F vs' xs') : InvS K pa0 F0 H0 pa F (upd H a (.lst vs')) π σ (ρ.set i (.m xs')) := by
  refine ⟨⟨iv.e.ff, iv.e.new, fun b o hb n => ?_, ⟨same_upd2 iv.e.wd.same h1, ?_, fun c z => ?_⟩, iv.e.pt⟩, iv.s.writeM e ea r⟩
  · have ne : b ≠ a := ne_of_none hb h0
    rw [upd_ne ne]
    exact iv.e.keep b o hb n
  · obtain ⟨u, q1, q2⟩ := iv.e.wd.sys
    have ne : a ≠ sysModules := iv.e.wd.sys_ne h3 fun ⟨_, z⟩ => by cases z
    exact ⟨u, by rw [upd_ne (Ne.symm ne)]; exact q1, q2⟩
  · obtain ⟨q1, q2⟩ := iv.e.wd.pot c z
    have ne : c ≠ a := fun y => h2 (by rw [← y]; exact z)
    exact ⟨q1, by rw [upd_ne ne]; exact q2⟩
def sApp (i : Nat) (f : MX) : MS := fun ρ π => (f ρ π).bind fun (x, π1) => match ρ[i]? with
  | some (.m xs) => if xs.length < sizeLine then some (.nx (ρ.set i (.m (xs ++ [x]))), π1) else none
  | _ => none
theorem evs_app {i : Nat} (e : EvE K te f) : EvS K (tDrop (tBM K "list" rAppend (tVar i) (tCons te tNil))) (sApp i f) := fun ρ π o π' hf pa0 F0 H0 pa F H σ D iv q => by
  unfold sApp at hf
  cases ef : f ρ π with
  | none => rw [ef] at hf; cases hf
  | some r =>
    obtain ⟨x, π1⟩ := r
    rw [ef] at hf
    simp only [Option.bind_some] at hf
    split at hf
    · rename_i xs ei
      split at hf
      · rename_i hz
        cases hf
        obtain ⟨a, vs, ea, h0, h1, h2, h3, h4⟩ := iv.s.own ei
        refine ⟨.ref a, ea, .inl ⟨rfl, vs, .inl (.inl h3)⟩, e ρ π x _ ef pa H0 F H σ _ iv.e.wd iv.s fun v F' H' p r => ?_⟩
        have iv' := iv.step p
        obtain ⟨a', vs', ea', h0', h1', h2', h3', h4'⟩ := iv'.s.own ei
        rw [ea] at ea'
        cases ea'
        exact ⟨a, vs', v, rfl, rfl, h3', by rw [h4'.length]; exact hz, q pa F' _ σ (own_write iv' ei ea h0' h1' h2' h3' (h4'.append (.cons r .nil))) p.ff⟩
      · cases hf
    · cases hf
/-- name.extend(a list) -/
def sExt (i : Nat) (l : ML) : MS := fun ρ π => (l ρ π).bind fun (ys, π1) => match ρ[i]? with
  | some (.m xs) => if xs.length + ys.length ≤ sizeLine then some (.nx (ρ.set i (.m (xs ++ ys))), π1) else none
  | _ => none
theorem evs_ext {i : Nat} (e : EvN K te l) : EvS K (tDrop (tBM K "list" rExtend (tVar i) (tCons te tNil))) (sExt i l) := fun ρ π o π' hf pa0 F0 H0 pa F H σ D iv q => by
  unfold sExt at hf
  cases ef : l ρ π with
  | none => rw [ef] at hf; cases hf
  | some r =>
    obtain ⟨ys, π1⟩ := r
    rw [ef] at hf
    simp only [Option.bind_some] at hf
    split at hf
    · rename_i xs ei
      split at hf
      · rename_i hz
        cases hf
        obtain ⟨a, vs, ea, h0, h1, h2, h3, h4⟩ := iv.s.own ei
        refine ⟨.ref a, ea, .inl ⟨rfl, vs, .inl (.inl h3)⟩, e ρ π ys _ ef pa H0 F H σ _ iv.e.wd iv.s fun A us F' H' p hA hFA hpA hHA r => ?_⟩
        have iv' := iv.step p
        obtain ⟨a', vs', ea', h0', h1', h2', h3', h4'⟩ := iv'.s.own ei
        rw [ea] at ea'
        cases ea'
        exact ⟨a, A, vs', us, rfl, rfl, h3', hHA, by rw [h4'.length, r.length]; exact hz, q pa F' _ σ (own_write iv' ei ea h0' h1' h2' h3' (h4'.append r)) p.ff⟩
      · cases hf
    · cases hf
/-- name[e] = f -/
def sSetIx (i : Nat) (h : MX) (f : MX) : MS := fun ρ π => (f ρ π).bind fun (x, π1) => (h ρ π1).bind fun (k, π2) => match ρ[i]?, k with
  | some (.m xs), .int k => (ixN xs.length k).map fun j => (.nx (ρ.set i (.m (xs.set j x))), π2)
  | _, _ => none
theorem evs_setIx {i : Nat} {tk : TE} {k : MX} (e : EvE K te f) (ek : EvX K tk k) : EvS K (tAsg te (gSub (tVar i) tk rSetL)) (sSetIx i k f) := fun ρ π o π' hf pa0 F0 H0 pa F H σ D iv q => by
  unfold sSetIx at hf
  cases ef : f ρ π with
  | none => rw [ef] at hf; cases hf
  | some r =>
    obtain ⟨x, π1⟩ := r
    rw [ef] at hf
    simp only [Option.bind_some] at hf
    cases eh : k ρ π1 with
    | none => rw [eh] at hf; cases hf
    | some r2 =>
      obtain ⟨kd, π2⟩ := r2
      rw [eh] at hf
      simp only [Option.bind_some] at hf
      split at hf
      · rename_i xs kk ei
        cases en : ixN xs.length kk with
        | none => rw [en] at hf; cases hf
        | some j =>
          rw [en] at hf
          cases hf
          refine e ρ π x π1 ef pa H0 F H σ _ iv.e.wd iv.s fun v F1 H1 p1 r1 => ?_
          have iv1 := iv.step p1
          obtain ⟨a, vs, ea, _⟩ := iv1.s.own ei
          refine ⟨.ref a, ea, ek ρ π1 _ _ eh pa H0 F1 H1 σ _ iv1.e.wd iv1.s fun u F2 H2 p2 r2 => ?_⟩
          have iv2 := iv1.step p2
          obtain ⟨a', vs', ea', h0', h1', h2', h3', h4'⟩ := iv2.s.own ei
          rw [ea] at ea'
          cases ea'
          exact ⟨a, vs', kk, j, rfl, r2.int_inv, h3', by rw [h4'.length]; exact en, q pa F2 _ σ (own_write iv2 ei ea h0' h1' h2' h3' (h4'.set (r1.mono p2.ff) j)) (p1.ff.trans p2.ff)⟩
      · cases hf

/-! #### loops -/
def forM (t : MG) (g : MS) : List PyData → Ev → Pt → Option (Out × Pt)
  | [], ρ, π => some (.nx ρ, π)
  | x :: xs, ρ, π => (t x ρ).bind fun ρ1 => (g ρ1 π).bind fun (o, π1) => match o with
    | .nx ρ2 => forM t g xs ρ2 π1
    | .ct ρ2 => forM t g xs ρ2 π1
    | .bk ρ2 => some (.nx ρ2, π1)
    | .rt d => some (.rt d, π1)
def sFor (it : ML) (t : MG) (g : MS) : MS := fun ρ π => (it ρ π).bind fun (ds, π1) => forM t g ds ρ π1
theorem evs_for {wi : TI} {gt : TG} {vs : List Nat} {it : ML} {t : MG} (ei : EvI K wi it) (eg : EvG K gt vs t) (eb : EvS K ts g) : EvS K (tFor wi gt ts) (sFor it t g) := fun ρ π o π' hf pa0 F0 H0 pa F H σ D iv q => by
  unfold sFor at hf
  cases e1 : it ρ π with
  | none => rw [e1] at hf; cases hf
  | some o1 =>
    obtain ⟨es, π1⟩ := o1
    rw [e1] at hf
    simp only [Option.bind_some] at hf
    refine ei ρ π es π1 e1 pa H0 F H σ _ iv.e.wd iv.s fun J F1 H1 p1 ok => ?_
    have iv1 := iv.step p1
    refine ⟨fun i m σc Hc => m = es.length - i ∧ i ≤ es.length ∧ ∃ (pc : Option Addr) (Fc : Hp) (ρc : Ev) (πc : Pt), InvS K pa0 F0 H0 pc Fc Hc πc σc ρc ∧ Same F1 Fc ∧ forM t g (es.drop i) ρc πc = some (o, π'),
      ⟨es.length, by simp, Nat.zero_le _, pa, F1, ρ, π1, iv1, Same.refl _, by rw [List.drop_zero]; exact hf⟩, ?_⟩
    rintro i m σc Hc ⟨rfl, hi, pc, Fc, ρc, πc, ivc, sc, hm⟩
    by_cases hlt : i < es.length
    · refine .inr ⟨ok.go pc i Fc Hc πc hlt sc ivc.e.wd, fun σn Hn => ∃ (pc : Option Addr) (Fc : Hp) (ρc : Ev) (πc : Pt), InvS K pa0 F0 H0 pc Fc Hn πc σn ρc ∧ Same F1 Fc ∧ forM t g (es.drop (i + 1)) ρc πc = some (o, π'),
        fun σn Hn hn => ⟨es.length - (i + 1), by omega, rfl, hlt, hn⟩, fun x Hx hy => ?_⟩
      have ed : es.drop i = es[i] :: es.drop (i + 1) := List.drop_eq_getElem_cons hlt
      obtain ⟨Fx, px, rx⟩ := ok.yld pc i Fc Hc πc x Hx es[i] (List.getElem?_eq_getElem hlt) sc ivc.e.wd hy
      rw [ed] at hm
      unfold forM at hm
      cases e2 : t es[i] ρc with
      | none => rw [e2] at hm; cases hm
      | some ρ1 =>
        rw [e2] at hm
        simp only [Option.bind_some] at hm
        have ivx := ivc.step px
        refine eg es[i] ρc ρ1 e2 pc H0 Fx Hx πc _ x _ ivx.e.wd ivx.s rx fun σ2 s2 _ => ?_
        cases e3 : g ρ1 πc with
        | none => rw [e3] at hm; cases hm
        | some o3 =>
          obtain ⟨ob, π2⟩ := o3
          rw [e3] at hm
          simp only [Option.bind_some] at hm
          refine eb ρ1 πc ob π2 e3 pa0 F0 H0 pc Fx Hx σ2 _ ⟨ivx.e, s2⟩ ?_
          have scx := sc.trans px.ff
          cases ob with
          | nx ρ2 => exact fun pd Fd Hd σd ivd sd => ⟨pd, Fd, ρ2, π2, ivd, scx.trans sd, hm⟩
          | ct ρ2 => exact fun pd Fd Hd σd ivd sd => ⟨pd, Fd, ρ2, π2, ivd, scx.trans sd, hm⟩
          | bk ρ2 => cases hm; exact fun pd Fd Hd σd ivd sd => q pd Fd Hd σd ivd (p1.ff.trans (scx.trans sd))
          | rt d => cases hm; exact fun pd Fd Hd v ivd r sd => q pd Fd Hd v ivd r (p1.ff.trans (scx.trans sd))
    · have ei2 : i = es.length := by omega
      subst ei2
      rw [List.drop_length] at hm
      cases hm
      exact .inl ⟨ok.stop pc Fc Hc _ sc ivc.e.wd, q pc Fc Hc σc ivc (p1.ff.trans sc)⟩
end
end DL

set_option maxHeartbeats 2000000
namespace DL
open PySem PySem.Spec PyProof.Rows L2
set_option autoImplicit false

abbrev MA := Ev → Pt → Option (List Sl × Pt)
/-- ta gives the values of the slots that f tells -/
def EvAr (K : PySem.W.Frag) (ta : TA) (f : MA) : Prop := ∀ ρ π sl π', f ρ π = some (sl, π') → ∀ pa H0 F H σ Q, Wd pa F H π → StOk K pa H0 F H σ ρ → (∀ vs F' H', Post pa F H F' H' π' → StOk K pa H F' H' (vs.map some) sl → Q vs H') → ta σ H Q
section
variable {K : PySem.W.Frag} {te : TE} {tr : TA} {f : MX} {l : ML} {r : MA}
def aNil : MA := fun _ π => some ([], π)
def aD (f : MX) (r : MA) : MA := fun ρ π => (f ρ π).bind fun (x, π1) => (r ρ π1).map fun (xs, π2) => (.d x :: xs, π2)
def aN (l : ML) (r : MA) : MA := fun ρ π => (l ρ π).bind fun (x, π1) => (r ρ π1).map fun (xs, π2) => (.m x :: xs, π2)
def aP (i : Nat) (r : MA) : MA := fun ρ π => match ρ[i]? with
  | some .p => (r ρ π).map fun (xs, π2) => (.p :: xs, π2)
  | _ => none
theorem evar_nil : EvAr K tNil aNil := fun ρ π sl π' hf pa H0 F H σ Q w s q => by
  cases hf
  exact q [] F H (.refl w) ⟨rfl, fun i s e => by simp at e, fun i j xs ys _ e => by simp at e⟩
theorem stok_cons {pa : Option Addr} {H0 F H : Hp} {v : V} {s0 : Sl} {σ : St} {ρ : Ev} (h : SlOk K pa H0 F H (some v) s0) (s : StOk K pa H0 F H σ ρ)
    (ap : ∀ xs j ys, s0 = .m xs → ρ[j]? = some (.m ys) → some v ≠ σ.getD j none) : StOk K pa H0 F H (some v :: σ) (s0 :: ρ) := by
  refine ⟨by rw [List.length_cons, List.length_cons, s.len], fun i u e => ?_, fun i j xs ys ne e1 e2 => ?_⟩
  · cases i with
    | zero =>
      have e : some s0 = some u := e
      cases e
      exact h
    | succ i => exact s.at_ i u e
  · cases i with
    | zero =>
      cases j with
      | zero => exact absurd rfl ne
      | succ j =>
        have e1 : some s0 = some (.m xs) := e1
        cases e1
        exact ap xs j ys rfl e2
    | succ i =>
      cases j with
      | zero =>
        have e2 : some s0 = some (.m ys) := e2
        cases e2
        exact fun z => ap ys i xs rfl e1 z.symm
      | succ j => exact s.apart i j xs ys (fun z => ne (by rw [z])) e1 e2
theorem StOk.entry {pa : Option Addr} {H1 H2 F H : Hp} {σ : St} {ρ : Ev} (s : StOk K pa H1 F H σ ρ) (h : ∀ a, H1 a = none → H2 a = none) : StOk K pa H2 F H σ ρ :=
  ⟨s.len, fun i u e => by
    have z := s.at_ i u e
    cases u with
    | e => trivial
    | d x => exact z
    | p => exact z
    | m xs =>
      obtain ⟨a, vs, z1, z0, z2⟩ := z
      exact ⟨a, vs, z1, h a z0, z2⟩, s.apart⟩
theorem evar_d (e : EvE K te f) (er : EvAr K tr r) : EvAr K (tCons te tr) (aD f r) := fun ρ π sl π' hf pa H0 F H σ Q w s q => by
  unfold aD at hf
  cases e1 : f ρ π with
  | none => rw [e1] at hf; cases hf
  | some o1 =>
    obtain ⟨x, π1⟩ := o1
    rw [e1] at hf
    simp only [Option.bind_some] at hf
    cases e2 : r ρ π1 with
    | none => rw [e2] at hf; cases hf
    | some o2 =>
      obtain ⟨xs, π2⟩ := o2
      rw [e2] at hf
      cases hf
      refine e ρ π x π1 e1 pa H0 F H σ _ w s fun v F1 H1 p1 r1 => ?_
      refine er ρ π1 xs _ e2 pa H0 F1 H1 σ _ p1.wd (s.post w p1) fun vs F2 H2 p2 s2 => q (v :: vs) F2 H2 (p1.trans w p2) ?_
      exact stok_cons ⟨v, rfl, r1.mono p2.ff⟩ (s2.entry fun a z => p1.fresh z) fun xs j ys z _ => nomatch z
theorem evar_n (e : EvN K te l) (er : EvAr K tr r) : EvAr K (tCons te tr) (aN l r) := fun ρ π sl π' hf pa H0 F H σ Q w s q => by
  unfold aN at hf
  cases e1 : l ρ π with
  | none => rw [e1] at hf; cases hf
  | some o1 =>
    obtain ⟨x, π1⟩ := o1
    rw [e1] at hf
    simp only [Option.bind_some] at hf
    cases e2 : r ρ π1 with
    | none => rw [e2] at hf; cases hf
    | some o2 =>
      obtain ⟨xs, π2⟩ := o2
      rw [e2] at hf
      cases hf
      refine e ρ π x π1 e1 pa H0 F H σ _ w s fun a us F1 H1 p1 ha hF hp hH r1 => ?_
      refine er ρ π1 xs _ e2 pa H0 F1 H1 σ _ p1.wd (s.post w p1) fun vs F2 H2 p2 s2 => q (.ref a :: vs) F2 H2 (p1.trans w p2) ?_
      have hF2 : F2 a = none := by
        cases z : F2 a with
        | none => rfl
        | some o =>
          rcases p2.new a o z with y | y
          · rw [hF] at y; cases y
          · rw [hH] at y; cases y
      refine stok_cons ⟨a, us, rfl, ha, hF2, hp, p2.keep a _ hH hp, r1.mono p2.ff⟩ (s2.entry fun a z => p1.fresh z) fun xs j ys _ ej z => ?_
      obtain ⟨b, ws, z1, z0, _⟩ := s2.at_ j _ ej
      rw [← z] at z1
      cases z1
      rw [hH] at z0
      cases z0
theorem evar_p {i : Nat} (er : EvAr K tr r) : EvAr K (tCons (tVar i) tr) (aP i r) := fun ρ π sl π' hf pa H0 F H σ Q w s q => by
  unfold aP at hf
  split at hf
  · rename_i ei
    cases e2 : r ρ π with
    | none => rw [e2] at hf; cases hf
    | some o2 =>
      obtain ⟨xs, π2⟩ := o2
      rw [e2] at hf
      cases hf
      obtain ⟨a, ea, ep⟩ := s.pot ei
      refine ⟨.ref a, ea, er ρ π xs _ e2 pa H0 F H σ _ w s fun vs F2 H2 p2 s2 => q (.ref a :: vs) F2 H2 p2 ?_⟩
      exact stok_cons ⟨a, rfl, ep⟩ s2 fun xs j ys z _ => nomatch z
  · cases hf

/-! #### a def's promise -/
/-- a def as a function of its arguments and the pot -/
abbrev MF := List Sl → Pt → Option (PyData × Pt)
abbrev MFN := List Sl → Pt → Option (List PyData × Pt)
def SPd (K : PySem.W.Frag) (n : Nat) (m : MF) : List V → Hp → VK → Prop := fun vs H Q => ∃ pa F π sl d π', vs.length = n ∧ Wd pa F H π ∧ StOk K pa H F H (vs.map some) sl ∧ m sl π = some (d, π') ∧ ∀ v F' H', Post pa F H F' H' π' → Rp K F' v d → Q v H'
def SPn (K : PySem.W.Frag) (n : Nat) (m : MFN) : List V → Hp → VK → Prop := fun vs H Q => ∃ pa F π sl ds π', vs.length = n ∧ Wd pa F H π ∧ StOk K pa H F H (vs.map some) sl ∧ m sl π = some (ds, π') ∧
  ∀ a us F' H', Post pa F H F' H' π' → H a = none → F' a = none → pa ≠ some a → H' a = some (.lst us) → RpA K F' us ds → Q (.ref a) H'
/-- the def at f keeps the promise sp; nothing is being shown around it -/
structure FnS (P : Program) (w : World) (K : PySem.W.Frag) (mg : Str → Option Value) (base : Heap) (k : Nat) (f : Addr) (fd : FuncData) (ps : List Str) (sp : List V → Hp → VK → Prop) : Prop where
  len : ∀ vs H Q, sp vs H Q → vs.length = ps.length
  run : ∀ (A : Around) (outer : List Env) (s : Shared) (H : Hp) (args : Args) (us : List Value) (vs : List V) (Q : VK), Room k A → A.guards = some [] → Env0 P w K mg base A outer s H → BindsTo s fd args (ps.zip us) → Vals vs us → sp vs H Q →
    codeAny (model P w) A (.call (.ref f) args) (CR CX0 outer P w H s Q E0) s
end

section
variable {P : Program} {w : World} {K : PySem.W.Frag} {mg : Str → Option Value} {base : Heap}
theorem FnS.mono {j k : Nat} {f : Addr} {fd : FuncData} {ps : List Str} {sp : List V → Hp → VK → Prop} (F : FnS P w K mg base j f fd ps sp) (h : j ≤ k) : FnS P w K mg base k f fd ps sp :=
  ⟨F.len, fun A outer s H args us vs Q hr => F.run A outer s H args us vs Q (hr.mono h)⟩
/-- a def of the text keeps a promise by its body -/
theorem fnS_of {x qual : Str} {params : Arguments} {body : List Stmt} {scope : Scope} {kws : List (Str × V)} {f : Addr} {fd : FuncData} {N ps : List Str} {k : Nat} {sp : List V → Hp → VK → Prop} (F : FunD K x qual params body scope [] kws f fd) (S : FnScope N ps scope)
    (len : ∀ vs H Q, sp vs H Q → vs.length = ps.length)
    (hb : ∀ (cdv : Value) (A : Around) (outer : List Env) (s : Shared) (H : Hp) (vs : List V) (Q : VK), Room k (A.deeper (envOfC qual scope s.heap.objs.size f cdv)) → (A.deeper (envOfC qual scope s.heap.objs.size f cdv)).guards = some [] → sp vs H Q →
      ∃ t, PSs (cxOf CX0 P w K mg base N qual scope f cdv A outer s H E0).nox body t ∧ t { nx := fun _ H' => Q .non H', rt := Q } (start N vs) H) : FnS P w K mg base (k + 1) f fd ps sp := by
  obtain ⟨oc, od, dV, kV, doc, pm, an, cdv, ct, osl, rfl, lk, hcd, _, _⟩ := F.ex
  refine ⟨len, fun A outer s H args us vs Q hr hg e0 hbind r hsp => ?_⟩
  have hl := len _ _ _ hsp
  have keepB : ∀ b o, base.get? b = some o → s.heap.get? b = some o := fun b o e => (e0.bs b o e).1
  have KX : K.In s.heap := e0.mod.kin.keeps keepB
  refine codeAny_call_function hr.depth (KX _ _ lk) rfl S.co S.gen rfl (PySem.W.codeRec_of KX hcd) (hbind _ _ _ _ ?_)
  refine wpAny_newFunctionEnv_cells S.kind (fun y hy => ?_) fun env he s1 x => ?_
  · obtain ⟨n, v⟩ := y
    rcases S.par n (List.of_mem_zip hy).1 with q | q
    · exact .inl q
    · exact .inr ⟨q, PySem.W.cellsFrom_some _ _ _ (.inl q)⟩
  · subst he
    refine ⟨(e0.mod.nolimit.keeps keepB).keeps x.toInCall.keep, codeAny_func ?_⟩
    obtain ⟨t, ht, hq⟩ := hb cdv A outer s H vs Q (hr.deeper _) hg hsp
    have I : Inv (cxOf CX0 P w K mg base N qual scope f cdv A outer s H E0) [] (start N vs) H s1 := inv_start S hr.hd e0 hl r x
    refine wpAny_mono (ht.nox.run [] s1 (start N vs) H _ I hq) (fun fl s' hs => ?_) fun e s' hs => hs
    cases fl with
    | ret u =>
      obtain ⟨v, σ', H', J, rv, q⟩ := hs
      exact ⟨v, H', J.os, J.bare, J.base, J.hok, rv, q⟩
    | next =>
      obtain ⟨σ', H', J, q⟩ := hs
      exact ⟨.non, H', J.os, J.bare, J.base, J.hok, rfl, q⟩
    | brk =>
      obtain ⟨_, _, _, q⟩ := hs
      exact q.elim
    | cont =>
      obtain ⟨_, _, _, q⟩ := hs
      exact q.elim
end

/-! #### calls -/
section
variable {X : Cx} {k : Nat} {f : Addr} {fd : FuncData} {ps ks : List Str} {sp : List V → Hp → VK → Prop} {x : Str} {p pos : Pos} {e : Expr} {es : List Expr} {kws : List Keyword} {t tk : TA}
def tCl (sp : List V → Hp → VK → Prop) (t : TA) : TE := fun σ H Q => t σ H fun vs H1 => sp vs H1 Q
theorem run_fnS {pins : List (Addr × Obj)} {σ : St} {H : Hp} {s : Shared} {Q : VK} {args : Args} {us : List Value} {vs : List V} (F : FnS X.prog X.w X.K X.mg X.base k f fd ps sp) (hr : Room k X.A) (hg : X.A.guards = some [])
    (I : Inv X pins σ H s) (hb : BindsTo s fd args (ps.zip us)) (r : Vals vs us) (h : sp vs H Q) : codeAny (model X.prog X.w) X.A (.call (.ref f) args) (fun r s' => match r with
      | .ok (.ret u) => EP X pins σ Q u s'
      | .ok _ => False
      | .error e => X.xe e s') s := by
  refine codeAny_mono (F.run X.A X.stack s H args us vs Q hr hg I.env0 hb r h) fun r s' hq => ?_
  cases r with
  | error e => exact hq.elim
  | ok fl =>
    cases fl with
    | ret u => exact I.after hq
    | next => exact hq.elim
    | brk => exact hq.elim
    | cont => exact hq.elim
theorem pe_cl (F : FnS X.prog X.w X.K X.mg X.base k f fd ps sp) (hr : Room k X.A) (hgd : X.A.guards = some []) (hg : Gl X x) (hm : X.mg x = some (.ref f)) (hk : PySem.W.keepIn X.K (.ref f) = true) (hb : Binds X.K fd ps [])
    (ha : PA X (e :: es) t) (hdb : (x == ("__debug__" : Str)) = false := by decide) (he : starEach (e :: es) X.env = (false, eval e X.env) :: starEach es X.env := by rfl) (hpl : (backTo pos (starEach es X.env)).any (·.1) = false := by rfl) :
    PE X (.Call (.Name x p) (e :: es) [] pos) (tCl sp t) := by
  refine ⟨fun pins s σ H Q I h => wpAny_Call_Name_kw (ld_glob I hg hm ?_ hdb)⟩
  refine PySem.W.callWith_K (h₀ := X.base) I.ok.mod.kin hk (thn (ha.run pos pins s σ H _ I h) fun us s1 ⟨vs, H1, I1, r, q⟩ => ⟨I1.kIn, ?_⟩) he hpl
  have hl : (us ++ []).length = ps.length := by rw [List.append_nil, ← r.length]; exact F.len _ _ _ q
  have b := hb s1 us I1.kIn hl
  rw [List.append_nil] at b
  refine wpAny_call (codeAny_mono (run_fnS F hr hgd I1 b r q) fun r s' hq => ?_)
  cases r with
  | error e => exact hq
  | ok fl =>
    cases fl with
    | ret u => exact hq
    | next => exact hq.elim
    | brk => exact hq.elim
    | cont => exact hq.elim
/-- how the keywords' values come to the parameters: none ahead of them, their names those of the parameters in turn -/
def KBind (K : PySem.W.Frag) (fd : FuncData) (ps ks : List Str) : Prop := ∀ (s : Shared) (ws : List Value), K.In s.heap → ws.length = ps.length → BindsTo s fd ⟨[], ks.zip ws⟩ (ps.zip ws)
theorem pe_clK (F : FnS X.prog X.w X.K X.mg X.base k f fd ps sp) (hr : Room k X.A) (hgd : X.A.guards = some []) (hg : Gl X x) (hm : X.mg x = some (.ref f)) (hk : PySem.W.keepIn X.K (.ref f) = true) (hb : KBind X.K fd ps ks)
    (hkw : PK X kws tk) (hall : (backToKw pos (keywordEach kws X.env)).all (·.1.isSome) = true := by rfl) (hks : (backToKw pos (keywordEach kws X.env)).filterMap (·.1) = ks := by rfl)
    (hdb : (x == ("__debug__" : Str)) = false := by decide) (hpl : ((backTo pos (starEach [] X.env)).any (·.1) || (backToKw pos (keywordEach kws X.env)).any (·.1.isNone)) = false := by rfl) :
    PE X (.Call (.Name x p) [] kws pos) (tCl sp tk) := by
  refine ⟨fun pins s σ H Q I h => wpAny_Call_Name_kw (ld_glob I hg hm ?_ hdb)⟩
  refine PySem.W.callWith_KW0 (h₀ := X.base) I.ok.mod.kin hk hall (thn (hkw.run pos pins s σ H _ I h) fun ws s1 ⟨zs, H1, I1, r, q⟩ => ⟨I1.kIn, ?_⟩) hpl
  rw [hks]
  have hl : ws.length = ps.length := by rw [← r.length]; exact F.len _ _ _ q
  refine wpAny_call (codeAny_mono (run_fnS F hr hgd I1 (hb s1 ws I1.kIn hl) r q) fun r s' hq => ?_)
  cases r with
  | error e => exact hq
  | ok fl =>
    cases fl with
    | ret u => exact hq
    | next => exact hq.elim
    | brk => exact hq.elim
    | cont => exact hq.elim
end
section
variable {K : PySem.W.Frag} {te : TE} {tr : TA} {f : MX} {r : MA} {n : Nat}
/-- neither unknown nor an own list -/
def Sl.dp : Sl → Bool
  | .d _ => true
  | .p => true
  | _ => false
theorem StOk.call {pa : Option Addr} {H1 H2 F H : Hp} {σ : St} {ρ : Ev} (s : StOk K pa H1 F H σ ρ) (h : ρ.all Sl.dp = true) : StOk K pa H2 F H σ ρ :=
  ⟨s.len, fun i u e => by
    have z := s.at_ i u e
    cases u with
    | e => trivial
    | d x => exact z
    | p => exact z
    | m xs =>
      have q := (List.all_eq_true.mp h) _ (List.mem_of_getElem? e)
      exact absurd q Bool.false_ne_true, s.apart⟩
def fCl (n : Nat) (m : MF) (r : MA) : MX := fun ρ π => (r ρ π).bind fun (sl, π1) => if sl.length = n ∧ sl.all Sl.dp = true then m sl π1 else none
theorem ev_cl {m : MF} (er : EvAr K tr r) : EvE K (tCl (SPd K n m) tr) (fCl n m r) := fun ρ π d π' hf pa H0 F H σ Q w s q => by
  unfold fCl at hf
  cases e1 : r ρ π with
  | none => rw [e1] at hf; cases hf
  | some o1 =>
    obtain ⟨sl, π1⟩ := o1
    rw [e1] at hf
    simp only [Option.bind_some] at hf
    split at hf
    · rename_i hn
      refine er ρ π sl π1 e1 pa H0 F H σ _ w s fun vs F1 H1 p1 s1 => ?_
      exact ⟨pa, F1, π1, sl, d, π', by rw [← hn.1, ← s1.len, List.length_map], p1.wd, s1.call hn.2, hf, fun v F' H' p2 r2 => q v F' H' (p1.trans w p2) r2⟩
    · cases hf
def fClN (n : Nat) (m : MFN) (r : MA) : ML := fun ρ π => (r ρ π).bind fun (sl, π1) => if sl.length = n ∧ sl.all Sl.dp = true then m sl π1 else none
theorem ev_clN {m : MFN} (er : EvAr K tr r) : EvN K (tCl (SPn K n m) tr) (fClN n m r) := fun ρ π d π' hf pa H0 F H σ Q w s q => by
  unfold fClN at hf
  cases e1 : r ρ π with
  | none => rw [e1] at hf; cases hf
  | some o1 =>
    obtain ⟨sl, π1⟩ := o1
    rw [e1] at hf
    simp only [Option.bind_some] at hf
    split at hf
    · rename_i hn
      refine er ρ π sl π1 e1 pa H0 F H σ _ w s fun vs F1 H1 p1 s1 => ?_
      exact ⟨pa, F1, π1, sl, d, π', by rw [← hn.1, ← s1.len, List.length_map], p1.wd, s1.call hn.2, hf, fun a us F' H' p2 ha hF hp hH r2 => q a us F' H' (p1.trans w p2) (p1.fresh ha) hF hp hH r2⟩
    · cases hf

/-! #### the body of a def -/
/-- the entry's slots -/
def entry (N : Nat) (sl : List Sl) : Ev := sl ++ List.replicate (N - sl.length) .e
theorem stok_entry {pa : Option Addr} {H0 F H : Hp} {N : List Str} {vs : List V} {sl : List Sl} (s : StOk K pa H0 F H (vs.map some) sl) : StOk K pa H0 F H (L2.start N vs) (entry N.length sl) := by
  have hl : vs.length = sl.length := by rw [← s.len, List.length_map]
  have old : ∀ {i : Nat} {u : Sl}, (entry N.length sl)[i]? = some u → u ≠ .e → sl[i]? = some u ∧ (L2.start N vs).getD i none = (vs.map some).getD i none := fun {i u} e ne => by
    unfold entry at e
    by_cases hi : i < sl.length
    · rw [List.getElem?_append_left hi] at e
      refine ⟨e, ?_⟩
      unfold L2.start
      rw [List.getD_eq_getElem?_getD, List.getD_eq_getElem?_getD, List.getElem?_append_left (by rw [List.length_map, hl]; exact hi)]
    · rw [List.getElem?_append_right (by omega), List.getElem?_replicate] at e
      split at e
      · cases e; exact absurd rfl ne
      · cases e
  refine ⟨?_, fun i u e => ?_, fun i j xs ys ne e1 e2 => ?_⟩
  · unfold L2.start entry
    rw [List.length_append, List.length_append, List.length_map, List.length_replicate, List.length_replicate, hl]
  · by_cases hu : u = .e
    · subst hu; trivial
    · obtain ⟨e1, e2⟩ := old e hu
      rw [e2]
      exact s.at_ i u e1
  · obtain ⟨q1, z1⟩ := old e1 (fun z => nomatch z)
    obtain ⟨q2, z2⟩ := old e2 (fun z => nomatch z)
    rw [z1, z2]
    exact s.apart i j xs ys ne q1 q2
/-- what a body gives: its return's datum, None at its end -/
def asRt : Option (Out × Pt) → Option (PyData × Pt)
  | some (.rt d, π) => some (d, π)
  | some (.nx _, π) => some (.none, π)
  | _ => none
def mOf (N : Nat) (g : MS) : MF := fun sl π => asRt (g (entry N sl) π)
theorem body_ok {ts : TS} {g : MS} {N : List Str} {n : Nat} (e : EvS K ts g) {vs : List V} {H : Hp} {Q : VK} (h : SPd K n (mOf N.length g) vs H Q) : ts { nx := fun _ H' => Q .non H', rt := Q } (L2.start N vs) H := by
  obtain ⟨pa, F, π, sl, d, π', hl, w, s, hm, q⟩ := h
  unfold mOf at hm
  cases hg : g (entry N.length sl) π with
  | none => rw [hg] at hm; cases hm
  | some r =>
    obtain ⟨o, π1⟩ := r
    rw [hg] at hm
    refine e _ π o π1 hg pa F H pa F H (start N vs) _ ⟨EndS.start w, stok_entry s⟩ ?_
    cases o with
    | nx ρ' => cases hm; exact fun pa' F' H' σ' i z => q .non F' H' i.e.post .non
    | rt d' => cases hm; exact fun pa' F' H' v i r z => q v F' H' i.post r
    | bk ρ' => cases hm
    | ct ρ' => cases hm
/-- a def whose body is one return of a new list -/
def mOfN (N : Nat) (l : ML) : MFN := fun sl π => l (entry N sl) π
theorem body_okN {te : TE} {l : ML} {N : List Str} {n : Nat} (e : EvN K te l) {vs : List V} {H : Hp} {Q : VK} (h : SPn K n (mOfN N.length l) vs H Q) : tRet te { nx := fun _ H' => Q .non H', rt := Q } (L2.start N vs) H := by
  obtain ⟨pa, F, π, sl, ds, π', hl, w, s, hm, q⟩ := h
  exact e _ π ds π' hm pa H F H (start N vs) _ w (stok_entry s) fun a us F' H' p ha hF hp hH r => q a us F' H' p ha hF hp hH r

/-! #### the pot -/
def fPot (i : Nat) (k : Int) : MX := fun ρ π => match ρ[i]? with
  | some .p => if k = 0 then some (.int π.1, π) else if k = 1 then some (.int π.2, π) else none
  | _ => none
theorem ev_pot {i : Nat} {k : Int} : EvE K (tOp (rIx K) (tVar i) (tC (.int k))) (fPot i k) := fun ρ π d π' hf pa H0 F H σ Q w s q => by
  unfold fPot at hf
  split at hf
  · rename_i ei
    obtain ⟨a, ea, ep⟩ := s.pot ei
    obtain ⟨_, hp⟩ := w.pot a ep
    split at hf
    · rename_i hk
      cases hf
      subst hk
      exact ⟨.ref a, ea, .inl ⟨a, _, 0, .int π.1, rfl, rfl, .inl (.inl hp), rfl, q _ F H (.refl w) (.int _)⟩⟩
    · split at hf
      · rename_i hk
        cases hf
        subst hk
        exact ⟨.ref a, ea, .inl ⟨a, _, 1, .int π.2, rfl, rfl, .inl (.inl hp), rfl, q _ F H (.refl w) (.int _)⟩⟩
      · cases hf
  · cases hf
/-- the pot's number k is written -/
theorem Wd.potSet {a : Addr} {F H : Hp} {π π' : Pt} (w : Wd (some a) F H π) : Post (some a) F H F (upd H a (.lst [.int π'.1, .int π'.2])) π' where
  ff := Same.refl _
  wd := by
    obtain ⟨q1, q2⟩ := w.pot a rfl
    refine ⟨same_upd2 w.same q1, ?_, fun c z => ?_⟩
    · obtain ⟨u, e, r⟩ := w.sys
      exact ⟨u, by rw [upd_ne (fun z => w.pa_sys (by rw [z]))]; exact e, r⟩
    · cases z; exact ⟨q1, upd_same⟩
  keep := fun b o e n => by rw [upd_ne (fun z => n (by rw [z]))]; exact e
  new := fun b o e => .inl e
def gPot (i : Nat) (k : Int) : PyData → Ev → Pt → Option Pt := fun x ρ π => match ρ[i]?, x with
  | some .p, .int v => if k = 0 then some (v, π.2) else if k = 1 then some (π.1, v) else none
  | _, _ => none
def sPot (i : Nat) (k : Int) (f : MX) : MS := fun ρ π => (f ρ π).bind fun (x, π1) => (gPot i k x ρ π1).map fun π2 => (.nx ρ, π2)
theorem potSet {pa : Option Addr} {H0 F H : Hp} {π π' : Pt} {σ : St} {ρ : Ev} {i : Nat} {k : Int} {x : PyData} {v : V} {R : Hp → Prop} (w : Wd pa F H π) (s : StOk K pa H0 F H σ ρ) (e : gPot i k x ρ π = some π') (r : Rp K F v x)
    (h : ∀ H', Post pa F H F H' π' → R H') : tVar i σ H fun o H1 => tC (.int k) σ H1 fun j H2 => rSetL o j v H2 R := by
  unfold gPot at e
  split at e
  · rename_i u ei
    obtain ⟨a, ea, ep⟩ := s.pot ei
    subst ep
    obtain ⟨q1, q2⟩ := w.pot a rfl
    split at e
    · rename_i hk
      cases e
      subst hk
      refine ⟨.ref a, ea, a, _, 0, 0, rfl, rfl, q2, rfl, ?_⟩
      rw [r.int_inv]
      exact h _ (w.potSet (π' := (_, _)))
    · split at e
      · rename_i hk
        cases e
        subst hk
        refine ⟨.ref a, ea, a, _, 1, 1, rfl, rfl, q2, rfl, ?_⟩
        rw [r.int_inv]
        exact h _ (w.potSet (π' := (π.1, u)))
      · cases e
  · cases e
theorem evs_pot {i : Nat} {k : Int} (e : EvE K te f) : EvS K (tAsg te (gSub (tVar i) (tC (.int k)) rSetL)) (sPot i k f) := fun ρ π o π' hf pa0 F0 H0 pa F H σ D iv q => by
  unfold sPot at hf
  cases ef : f ρ π with
  | none => rw [ef] at hf; cases hf
  | some r =>
    obtain ⟨x, π1⟩ := r
    rw [ef] at hf
    simp only [Option.bind_some] at hf
    cases eg : gPot i k x ρ π1 with
    | none => rw [eg] at hf; cases hf
    | some π2 =>
      rw [eg] at hf
      cases hf
      refine e ρ π x π1 ef pa H0 F H σ _ iv.e.wd iv.s fun v F1 H1 p1 r1 => ?_
      have iv1 := iv.step p1
      exact potSet iv1.e.wd iv1.s eg r1 fun H' p2 => q pa F1 H' σ (iv1.step p2) p1.ff
/-- pot[k], name = a pair -/
def sPotN (i : Nat) (k : Int) (j : Nat) (f : MX) : MS := fun ρ π => (f ρ π).bind fun (x, π1) => match x with
  | .tuple [y, z] => (gPot i k y ρ π1).map fun π2 => (.nx (ρ.set j (.d z)), π2)
  | _ => none
theorem evs_potN {i j : Nat} {k : Int} (e : EvE K te f) : EvS K (tAsg te (gTup K 2 (gCons (gSub (tVar i) (tC (.int k)) rSetL) (gCons (gName j) gNil)))) (sPotN i k j f) := fun ρ π o π' hf pa0 F0 H0 pa F H σ D iv q => by
  unfold sPotN at hf
  cases ef : f ρ π with
  | none => rw [ef] at hf; cases hf
  | some r =>
    obtain ⟨x, π1⟩ := r
    rw [ef] at hf
    simp only [Option.bind_some] at hf
    split at hf
    · rename_i y z
      cases eg : gPot i k y ρ π1 with
      | none => rw [eg] at hf; cases hf
      | some π2 =>
        rw [eg] at hf
        cases hf
        refine e ρ π _ π1 ef pa H0 F H σ _ iv.e.wd iv.s fun v F1 H1 p1 r1 => ?_
        have iv1 := iv.step p1
        obtain ⟨a, us, rfl, hs, ra⟩ := r1.tup_inv
        cases ra with
        | cons ry t =>
          cases t with
          | cons rz t2 =>
            cases t2
            refine ⟨a, _, rfl, seqT_mono p1.wd.same hs, rfl, _, _, rfl, ?_⟩
            refine potSet iv1.e.wd iv1.s eg ry fun H' p2 => ⟨_, [], rfl, rfl, ?_⟩
            have iv2 := iv1.step p2
            exact q pa F1 H' _ ⟨iv2.e, iv2.s.setD rz⟩ p1.ff
    · cases hf

/-- names = the items of a tuple -/
def sUnp (t : MG) (f : MX) : MS := fun ρ π => (f ρ π).bind fun (x, π1) => (t x ρ).map fun ρ1 => (.nx ρ1, π1)
theorem evs_unp {g : TG} {vs : List Nat} {t : MG} (e : EvE K te f) (eg : EvG K g vs t) : EvS K (tAsg te g) (sUnp t f) := fun ρ π o π' hf pa0 F0 H0 pa F H σ D iv q => by
  unfold sUnp at hf
  cases ef : f ρ π with
  | none => rw [ef] at hf; cases hf
  | some r =>
    obtain ⟨x, π1⟩ := r
    rw [ef] at hf
    simp only [Option.bind_some] at hf
    cases et : t x ρ with
    | none => rw [et] at hf; cases hf
    | some ρ1 =>
      rw [et] at hf
      cases hf
      refine e ρ π x _ ef pa H0 F H σ _ iv.e.wd iv.s fun v F1 H1 p1 r1 => ?_
      have iv1 := iv.step p1
      exact eg x ρ ρ1 et pa H0 F1 H1 _ σ v _ iv1.e.wd iv1.s r1 fun σ' s' _ => q pa F1 H1 σ' ⟨iv1.e, s'⟩ p1.ff
/-- a slot's content moves to a name -/
theorem StOk.put {pa : Option Addr} {H0 F H : Hp} {σ : St} {ρ : Ev} {i : Nat} {v : V} {u : Sl} (s : StOk K pa H0 F H σ ρ) (h : SlOk K pa H0 F H (some v) u) (hu : u ≠ .p)
    (ap : ∀ xs, u = .m xs → ∀ j ys, j ≠ i → ρ[j]? = some (.m ys) → σ.getD j none ≠ some v) : StOk K pa H0 F H (σ.set i (some v)) (ρ.set i u) := by
  cases u with
  | e => exact s.setE
  | d x =>
    obtain ⟨v', e, r⟩ := h
    cases e
    exact s.setD r
  | m xs =>
    obtain ⟨a, vs, e, h0, h1, h2, h3, h4⟩ := h
    cases e
    exact s.setM h0 h1 h2 h3 h4 (ap xs rfl)
  | p => exact absurd rfl hu
def notP : Sl → Bool
  | .p => false
  | _ => true
/-- a, b = x, y -/
def sPar (i j : Nat) (r : MA) : MS := fun ρ π => (r ρ π).bind fun (sl, π1) => match sl with
  | [u, v] => if notP u = true ∧ notP v = true ∧ i ≠ j then some (.nx ((ρ.set i u).set j v), π1) else none
  | _ => none
theorem par_apart {pa : Option Addr} {H0 H F F' H' : Hp} {π : Pt} {σ : St} {ρ : Ev} {vs : List V} {sl : List Sl} (w : Wd pa F H π) (s : StOk K pa H0 F H σ ρ) (s1 : StOk K pa H F' H' (vs.map some) sl) {k : Nat} {xs : List PyData} {v : V} (hk : sl[k]? = some (.m xs)) (hv : vs[k]? = some v) :
    ∀ j ys, ρ[j]? = some (.m ys) → σ.getD j none ≠ some v := fun j ys e z => by
  obtain ⟨a, us, e1, h0, _⟩ := s1.at_ k _ hk
  rw [List.getD_eq_getElem?_getD, List.getElem?_map, hv] at e1
  have e1 : some v = some (.ref a) := e1
  cases e1
  obtain ⟨b, ws, e2, _, _, _, h3, _⟩ := s.at_ j _ e
  rw [z] at e2
  cases e2
  rw [h0] at h3
  cases h3
theorem evs_par {i j : Nat} (er : EvAr K tr r) : EvS K (tPar i j tr) (sPar i j r) := fun ρ π o π' hf pa0 F0 H0 pa F H σ D iv q => by
  unfold sPar at hf
  cases e1 : r ρ π with
  | none => rw [e1] at hf; cases hf
  | some o1 =>
    obtain ⟨sl, π1⟩ := o1
    rw [e1] at hf
    simp only [Option.bind_some] at hf
    split at hf
    · rename_i u v
      split at hf
      · rename_i hn
        cases hf
        refine er ρ π _ _ e1 pa H0 F H σ _ iv.e.wd iv.s fun vs F1 H1 p1 s1 => ?_
        have hl := s1.len
        rw [List.length_map] at hl
        obtain ⟨x, y, rfl⟩ : ∃ x y, vs = [x, y] := by
          match vs, hl with
          | [x, y], _ => exact ⟨x, y, rfl⟩
        have iv1 := iv.step p1
        have s2 := s1.entry (H2 := H0) fun a z => iv.e.fresh z
        have hu : u ≠ .p := fun z => by rw [z] at hn; exact nomatch hn.1
        have hv : v ≠ .p := fun z => by rw [z] at hn; exact nomatch hn.2.1
        refine ⟨x, y, rfl, q pa F1 H1 _ ⟨iv1.e, ?_⟩ p1.ff⟩
        have st1 := iv1.s.put (i := i) (v := x) (s2.at_ 0 u rfl) hu fun xs eu l ys _ el => par_apart iv.e.wd iv.s s1 (k := 0) (by rw [eu]; rfl) rfl l ys el
        refine st1.put (s2.at_ 1 v rfl) hv fun xs ev l ys hlj el => ?_
        by_cases hil : i = l
        · subst hil
          have hi : i < ρ.length := Nat.lt_of_not_le fun z => by rw [List.getElem?_eq_none (by rw [List.length_set]; exact z)] at el; cases el
          rw [List.getElem?_set_self hi] at el
          cases el
          rw [List.getD_eq_getElem?_getD, List.getElem?_set_self (by rw [iv1.s.len]; exact hi)]
          exact s1.apart 0 1 ys xs (by decide) rfl (by rw [ev]; rfl)
        · rw [List.getElem?_set_ne hil] at el
          rw [List.getD_eq_getElem?_getD, List.getElem?_set_ne hil, ← List.getD_eq_getElem?_getD]
          exact par_apart iv.e.wd iv.s s1 (k := 1) (by rw [ev]; rfl) rfl l ys el
      · cases hf
    · cases hf
/-- a, b, c = x, y, z -/
def sPar3 (i j l : Nat) (r : MA) : MS := fun ρ π => (r ρ π).bind fun (sl, π1) => match sl with
  | [u, v, t] => if (notP u = true ∧ notP v = true ∧ notP t = true) ∧ i ≠ j ∧ i ≠ l ∧ j ≠ l then some (.nx (((ρ.set i u).set j v).set l t), π1) else none
  | _ => none
theorem evs_par3 {i j l : Nat} (er : EvAr K tr r) : EvS K (tPar3 i j l tr) (sPar3 i j l r) := fun ρ π o π' hf pa0 F0 H0 pa F H σ D iv q => by
  unfold sPar3 at hf
  cases e1 : r ρ π with
  | none => rw [e1] at hf; cases hf
  | some o1 =>
    obtain ⟨sl, π1⟩ := o1
    rw [e1] at hf
    simp only [Option.bind_some] at hf
    split at hf
    · rename_i u v t
      split at hf
      · rename_i hn
        cases hf
        refine er ρ π _ _ e1 pa H0 F H σ _ iv.e.wd iv.s fun vs F1 H1 p1 s1 => ?_
        have hl := s1.len
        rw [List.length_map] at hl
        obtain ⟨x, y, z, rfl⟩ : ∃ x y z, vs = [x, y, z] := by
          match vs, hl with
          | [x, y, z], _ => exact ⟨x, y, z, rfl⟩
        have iv1 := iv.step p1
        have s2 := s1.entry (H2 := H0) fun a z => iv.e.fresh z
        have hu : u ≠ .p := fun z => by rw [z] at hn; exact nomatch hn.1.1
        have hv : v ≠ .p := fun z => by rw [z] at hn; exact nomatch hn.1.2.1
        have ht : t ≠ .p := fun z => by rw [z] at hn; exact nomatch hn.1.2.2
        obtain ⟨_, hij, hil, hjl⟩ := hn
        refine ⟨x, y, z, rfl, q pa F1 H1 _ ⟨iv1.e, ?_⟩ p1.ff⟩
        have old0 : ∀ {k : Nat} {xs : List PyData} {w' : V}, [u, v, t][k]? = some (.m xs) → [x, y, z][k]? = some w' → ∀ m ys, ρ[m]? = some (.m ys) → σ.getD m none ≠ some w' := fun {k xs w'} h1 h2 m ys el => par_apart iv.e.wd iv.s s1 h1 h2 m ys el
        have st1 := iv1.s.put (i := i) (v := x) (s2.at_ 0 u rfl) hu fun xs eu m ys _ el => old0 (k := 0) (by rw [eu]; rfl) rfl m ys el
        have in_i : ∀ {ys : List PyData}, (ρ.set i u)[i]? = some (.m ys) → u = .m ys ∧ i < σ.length := fun {ys} el => by
          have hi : i < ρ.length := Nat.lt_of_not_le fun z => by rw [List.getElem?_eq_none (by rw [List.length_set]; exact z)] at el; cases el
          rw [List.getElem?_set_self hi] at el
          cases el
          exact ⟨rfl, by rw [iv1.s.len]; exact hi⟩
        have st2 := st1.put (i := j) (v := y) (s2.at_ 1 v rfl) hv fun xs ev m ys hmj el => by
          by_cases him : i = m
          · subst him
            obtain ⟨eu, hi⟩ := in_i el
            rw [List.getD_eq_getElem?_getD, List.getElem?_set_self hi]
            exact s1.apart 0 1 ys xs (by decide) (by rw [eu]; rfl) (by rw [ev]; rfl)
          · rw [List.getElem?_set_ne him] at el
            rw [List.getD_eq_getElem?_getD, List.getElem?_set_ne him, ← List.getD_eq_getElem?_getD]
            exact old0 (k := 1) (by rw [ev]; rfl) rfl m ys el
        refine st2.put (s2.at_ 2 t rfl) ht fun xs et m ys hml el => ?_
        by_cases hjm : j = m
        · subst hjm
          have hj : j < (ρ.set i u).length := Nat.lt_of_not_le fun z => by rw [List.getElem?_eq_none (by rw [List.length_set]; exact z)] at el; cases el
          rw [List.getElem?_set_self hj] at el
          cases el
          rw [List.getD_eq_getElem?_getD, List.getElem?_set_self (by rw [st1.len]; exact hj)]
          exact s1.apart 1 2 ys xs (by decide) rfl (by rw [et]; rfl)
        · rw [List.getElem?_set_ne hjm] at el
          rw [List.getD_eq_getElem?_getD, List.getElem?_set_ne hjm, ← List.getD_eq_getElem?_getD]
          by_cases him : i = m
          · subst him
            obtain ⟨eu, hi⟩ := in_i el
            rw [List.getD_eq_getElem?_getD, List.getElem?_set_self hi]
            exact s1.apart 0 2 ys xs (by decide) (by rw [eu]; rfl) (by rw [et]; rfl)
          · rw [List.getElem?_set_ne him] at el
            rw [List.getD_eq_getElem?_getD, List.getElem?_set_ne him, ← List.getD_eq_getElem?_getD]
            exact old0 (k := 2) (by rw [et]; rfl) rfl m ys el
      · cases hf
    · cases hf

/-! #### while -/
def whM (b : MT) (g : MS) : Nat → Ev → Pt → Option (Out × Pt)
  | 0, _, _ => none
  | n + 1, ρ, π => (b ρ π).bind fun (k, π1) => if k = true then (g ρ π1).bind fun (o, π2) => match o with
      | .nx ρ2 => whM b g n ρ2 π2
      | .ct ρ2 => whM b g n ρ2 π2
      | .bk ρ2 => some (.nx ρ2, π2)
      | .rt d => some (.rt d, π2)
    else some (.nx ρ, π1)
theorem evs_while {tt : TT} {ts : TS} {b : MT} {g : MS} (n : Nat) (et : EvT K tt b) (eb : EvS K ts g) : EvS K (tWhile tt ts) (whM b g n) := fun ρ π o π' hf pa0 F0 H0 pa F H σ D iv q => by
  refine ⟨fun m σc Hc => ∃ (pc : Option Addr) (Fc : Hp) (ρc : Ev) (πc : Pt), InvS K pa0 F0 H0 pc Fc Hc πc σc ρc ∧ Same F Fc ∧ whM b g m ρc πc = some (o, π'), ⟨n, pa, F, ρ, π, iv, Same.refl _, hf⟩, ?_⟩
  rintro m σc Hc ⟨pc, Fc, ρc, πc, ivc, sc, hm⟩
  cases m with
  | zero => cases hm
  | succ m =>
    unfold whM at hm
    cases e1 : b ρc πc with
    | none => rw [e1] at hm; cases hm
    | some r =>
      obtain ⟨k, π1⟩ := r
      rw [e1] at hm
      simp only [Option.bind_some] at hm
      refine et ρc πc k π1 e1 pc H0 Fc Hc σc _ ivc.e.wd ivc.s fun F1 H1 p1 => ?_
      have iv1 := ivc.step p1
      have sc1 := sc.trans p1.ff
      cases k with
      | false =>
        rw [if_neg Bool.false_ne_true] at hm ⊢
        cases hm
        exact q pc F1 H1 σc iv1 sc1
      | true =>
        rw [if_pos rfl] at hm ⊢
        refine ⟨fun σn Hn => ∃ (pc : Option Addr) (Fc : Hp) (ρc : Ev) (πc : Pt), InvS K pa0 F0 H0 pc Fc Hn πc σn ρc ∧ Same F Fc ∧ whM b g m ρc πc = some (o, π'), fun σn Hn hn => ⟨m, Nat.lt_succ_self m, hn⟩, ?_⟩
        cases e2 : g ρc π1 with
        | none => rw [e2] at hm; cases hm
        | some r2 =>
          obtain ⟨o2, π2⟩ := r2
          rw [e2] at hm
          simp only [Option.bind_some] at hm
          refine eb ρc π1 o2 π2 e2 pa0 F0 H0 pc F1 H1 σc _ iv1 ?_
          cases o2 with
          | nx ρ2 => exact fun pd Fd Hd σd ivd sd => ⟨pd, Fd, ρ2, π2, ivd, sc1.trans sd, hm⟩
          | ct ρ2 => exact fun pd Fd Hd σd ivd sd => ⟨pd, Fd, ρ2, π2, ivd, sc1.trans sd, hm⟩
          | bk ρ2 => cases hm; exact fun pd Fd Hd σd ivd sd => q pd Fd Hd σd ivd (sc1.trans sd)
          | rt d => cases hm; exact fun pd Fd Hd v ivd r sd => q pd Fd Hd v ivd r (sc1.trans sd)
end
end DL

set_option maxHeartbeats 2000000
namespace DL
open PySem PySem.Spec PyProof.Rows L2
set_option autoImplicit false

def sysB : Option Obj → Bool
  | some ⟨_, _, .dict _ _, _⟩ => true
  | _ => false
theorem sysB_ok {o : Option Obj} (h : sysB o = true) : ∃ ob es n, o = some ob ∧ ob.data = .dict es n := by
  unfold sysB at h
  split at h
  · rename_i c d es n sl
    exact ⟨_, es, n, rfl, rfl⟩
  · cases h
abbrev AlS : Type := (Bool × Bool × Bool) × He.AlD
/-- tables: names of tuples at the module's top -/
abbrev TabS : Type := List (Str × List He.Dv)
def tabB (K : PySem.W.Frag) (tb : TabS) : Bool := tb.all fun t => He.tupB K t.1 t.2
theorem tab_ok {K : PySem.W.Frag} {tb : TabS} (h : tabB K tb = true) (i : Nat) {x : Str} {vs : List He.Dv} (e : tb[i]? = some (x, vs) := by rfl) (H : Hp) : SqT K H (He.ga K x) (vs.map (He.Dv.v K)) :=
  He.tupB_ok ((List.all_eq_true.mp h) (x, vs) (List.mem_of_getElem? e)) H
def obsSG (n : Nat) (fa : List He.Fa) (fn : List He.DefD) (tb : TabS) (g : Addr → Option Obj) : AlS := ((sysB (g sysModules), ((He.frG g (He.asD g n)).lookup sysModules).isNone, tabB (He.frG g (He.asD g n)) tb), He.obsDG n fa fn g)
def hookS (n : Nat) (fa : List He.Fa) (fn : List He.DefD) (tb : TabS) : PySem.W.Hook where
  α := AlS
  obs := fun s => obsSG n fa fn tb s.heap.get?
  val := fun _ => ((true, true, true), He.valD fn)
  says := fun _ h => (∃ ob es n, h.get? sysModules = some ob ∧ ob.data = .dict es n) ∧ ∃ K : PySem.W.Frag, K.In h ∧ He.SaysD fa fn K ∧ K.lookup sysModules = none ∧ tabB K tb = true
  of := fun _ s e => by
    have e1 : sysB (s.heap.get? sysModules) = true := congrArg (fun z : AlS => z.1.1) e
    have e2 : ((He.frG s.heap.get? (He.asD s.heap.get? n)).lookup sysModules).isNone = true := congrArg (fun z : AlS => z.1.2.1) e
    have e4 : tabB (He.frG s.heap.get? (He.asD s.heap.get? n)) tb = true := congrArg (fun z : AlS => z.1.2.2) e
    have e3 : He.SaysD fa fn (He.frG s.heap.get? (He.asD s.heap.get? n)) := congrArg (fun z : AlS => z.2) e
    exact ⟨sysB_ok e1, _, He.frG_in, e3, Option.isNone_iff_eq_none.mp e2, e4⟩
  keeps := fun _ _ _ ⟨⟨ob, es, n, h1, h2⟩, K, hK, c, z⟩ k => ⟨⟨ob, es, n, k _ _ h1, h2⟩, K, PySem.W.Frag.In.keeps hK k, c, z⟩
theorem obsSG_eq {n : Nat} {fa : List He.Fa} {fn : List He.DefD} {tb : TabS} {g : Addr → Option Obj} {s : Shared} (h : ∀ a, g a = s.heap.get? a) : obsSG n fa fn tb g = (hookS n fa fn tb).obs s := by
  have e : g = s.heap.get? := funext h
  rw [e] <;> rfl

theorem law_callS {P : Program} {w : World} {K : PySem.W.Frag} {mg mb : Str → Option Value} {k : Nat} {fA a : Addr} {fd : FuncData} {x : Str} {m : MF} {s₁ : Shared} {vs : List Value} {ns : List Int} {π' : Pt}
    (KX : K.In s₁.heap) (hns : s₁.heap.Ns mainGlobals mg) (hb : s₁.heap.Ns builtinsNs mb) (hbb : ∀ x : Str, x ≠ "__name__" → mb x = bootBuiltins x) (hlim : s₁.heap.NoLimit) (hg : s₁.gens = #[])
    (ha : s₁.heap.get? a = some { cls := .type "list", data := .seq vs.toArray }) (hi : IntsAre vs ns) (hl : ns.length ≤ sizeLine) (hr : Room k callerA)
    (hsys : ∃ ob es n, s₁.heap.get? sysModules = some ob ∧ ob.data = .dict es n) (hks : K.lookup sysModules = none)
    (F : ∀ base : Heap, K.In base → base.Ns mainGlobals mg → FnS P w K mg base k fA fd [x] (SPd K 1 m)) (hbind : ∀ (s : Shared) (u : Value), BindsTo s fd ⟨[u], []⟩ [(x, u)])
    (hm : m [.d (.list (ns.map PyData.int))] (0, 0) = some (.bool true, π')) :
    codeAny (model P w) callerA (.call (.ref fA) ⟨[.ref a], []⟩) (fun r s' => r = .ok (.ret (.bool true)) ∧ OldK s₁.heap s'.heap ∧ s'.os = s₁.os ∧ AllBare s'.gens) s₁ := by
  have rv := vals_ints hi
  obtain ⟨ob, es, en, hob, hobd⟩ := hsys
  have has : a ≠ sysModules := fun e => by
    rw [e, hob] at ha
    cases ha
    cases hobd
  have notLow : ∀ {b : Addr} {m : Str → Option Value}, s₁.heap.Ns b m → b ≠ a := fun {b m} ⟨o, es, ep, e, d, _⟩ z => by
    rw [z, ha] at e
    cases e
    cases d
  let sO : Obj := { cls := .type "list", data := .seq vs.toArray }
  let H : Hp := fun b => if b = sysModules then some (.frz ob (.ext fun _ => True)) else if b = a ∧ K.lookup a = none then some (.frz sO (.lst (ns.map V.int))) else none
  have Hs : H sysModules = some (.frz ob (.ext fun _ => True)) := if_pos rfl
  have Hn : ∀ b, H b ≠ none → b = sysModules ∨ (b = a ∧ K.lookup a = none) := fun b z => by
    by_cases h1 : b = sysModules
    · exact .inl h1
    · by_cases h2 : b = a ∧ K.lookup a = none
      · exact .inr h2
      · exact absurd (by show (if b = sysModules then _ else if b = a ∧ K.lookup a = none then _ else none) = none; rw [if_neg h1, if_neg h2]) z
  have hok : HOk P w H s₁.heap := fun b u e => by
    by_cases h1 : b = sysModules
    · subst h1
      rw [Hs] at e
      cases e
      exact ⟨hob, trivial, ⟨_, hob⟩, fun _ _ _ _ => trivial⟩
    · have e' : (if b = sysModules then _ else if b = a ∧ K.lookup a = none then some (HO.frz sO (.lst (ns.map V.int))) else none) = some u := e
      rw [if_neg h1] at e'
      split at e'
      · rename_i h2
        cases e'
        rw [h2.1]
        exact ⟨ha, by rw [List.length_map]; exact hl, vs, _, rv, ha⟩
      · cases e'
  have base_of : ∀ {b : Addr} {o : Obj}, s₁.heap.get? b = some o → H b = none → (hidT s₁.heap H).get? b = some o := fun e n => hidT_get e n
  have nsK : ∀ {b : Addr} {m : Str → Option Value}, b ≠ sysModules → s₁.heap.Ns b m → (hidT s₁.heap H).Ns b m := fun {b m} hs nb => by
    have hba := notLow nb
    obtain ⟨o, es, ep, e, d, r⟩ := nb
    refine ⟨o, es, ep, base_of e ?_, d, r⟩
    cases q : H b with
    | none => rfl
    | some u =>
      rcases Hn b (by rw [q]; simp) with z | z
      · exact absurd z hs
      · exact absurd z.1 hba
  have hKb : K.In (hidT s₁.heap H) := fun b o e => base_of (KX b o e) (by
    cases q : H b with
    | none => rfl
    | some u =>
      rcases Hn b (by rw [q]; simp) with z | z
      · rw [z, hks] at e; cases e
      · rw [z.1, z.2] at e; cases e)
  have n1 : mainGlobals ≠ sysModules := by decide
  have n2 : builtinsNs ≠ sysModules := by decide
  have n3 : cStatics ≠ sysModules := by decide
  have hM : Mod K mg (hidT s₁.heap H) := ⟨hKb, nsK n1 hns, ⟨mb, nsK n2 hb, hbb⟩, let ⟨mc, h1, h2⟩ := hlim; ⟨mc, nsK n3 h1, h2⟩⟩
  have e0 : Env0 P w K mg (hidT s₁.heap H) callerA [] s₁ H := ⟨rfl, hM, fun b o e => of_hidT e, Nat.le_of_eq (hidT_size _ _), trivial, fun b hb => absurd (show b ∈ ([] : List Addr) from hb) (by simp), hok, .of_eq hg⟩
  have hS : SqL K H a (ns.map V.int) := by
    cases hk : K.lookup a with
    | none => exact .inl (.inr ⟨sO, by show (if a = sysModules then _ else if a = a ∧ K.lookup a = none then _ else none) = _; rw [if_neg has, if_pos ⟨rfl, hk⟩]⟩)
    | some o =>
      have e := KX a o hk
      rw [ha] at e
      cases e
      exact .inr ⟨_, vs.toArray, _, hk, rfl, rfl, rfl, by rw [List.size_toArray, hi.length]; exact hl, by simpa using rv⟩
  have wd : Wd none H H (0, 0) := ⟨Same.refl _, ⟨_, Hs, ob, rfl⟩, fun c z => nomatch z⟩
  have st : StOk K none H H H ([V.ref a].map some) [.d (.list (ns.map PyData.int))] := stok_cons ⟨.ref a, rfl, .lst hS (RpA.ints ns)⟩ ⟨rfl, fun i s e => by simp at e, fun i j xs ys _ e => by simp at e⟩ fun xs j ys z _ => nomatch z
  refine codeAny_mono ((F _ hKb (nsK n1 hns)).run callerA [] s₁ H ⟨[.ref a], []⟩ [.ref a] [.ref a] (fun v _ => v = .bl true) hr rfl e0 (hbind s₁ (.ref a)) (.cons rfl .nil)
    ⟨none, H, (0, 0), _, _, _, rfl, wd, st, hm, fun v F' H' p r => r.bool_inv⟩) fun r s' h => ?_
  cases r with
  | error e => exact h.elim
  | ok fl =>
    cases fl with
    | next => exact h.elim
    | brk => exact h.elim
    | cont => exact h.elim
    | ret u =>
      obtain ⟨v, H', os, bare, un, hok', r', q⟩ := h
      have q' : v = .bl true := q
      subst q'
      obtain rfl : u = Value.bool true := r'
      refine ⟨rfl, OldK.of_keep fun b o e => ?_, os, bare⟩
      have old : ∀ u' ob', H b = some (.frz ob' u') → s'.heap.get? b = some o := fun u' ob' z => by
        have z2 := un.frzs b ob' _ z
        obtain ⟨e1, _⟩ := hok b _ z
        obtain ⟨e2, _⟩ := hok' b _ z2
        rw [e] at e1
        cases e1
        exact e2
      cases q : H b with
      | none => exact un.keep b o e q (by intro z; exact absurd (show b ∈ ([] : List Addr) from z) (by simp)) (by simp)
      | some u =>
        rcases Hn b (by rw [q]; simp) with z | z
        · exact old _ ob (by rw [z]; exact Hs)
        · exact old (.lst (ns.map V.int)) sO (by show (if b = sysModules then _ else if b = a ∧ K.lookup a = none then _ else none) = _; rw [if_neg (by rw [z.1]; exact has), if_pos z])

theorem walk_ofS {l : PySem.W.OpenLaw} {n k lev : Nat} {fa : List He.Fa} {fn : List He.DefD} {tb : TabS} {q : Program} {loose : List Str} {XP : (Str → Option Value) → Heap → Prop} {d : DefRec} {x : Str}
    (hn : l.most = some n) (hn2 : n ≤ sizeLine) (hdf : d.params.defaults = []) (hr : Room k callerA)
    (F : ∀ (w : World) (mg : Str → Option Value) (fA : Addr) (h : Heap) (K : PySem.W.Frag), K.In h → He.SaysD fa fn K → tabB K tb = true → h.Ns mainGlobals mg → mg d.name = some (.ref fA) →
      ∃ (fd : FuncData) (m : MF), (∀ (s : Shared) (u : Value), BindsTo s fd ⟨[u], []⟩ [(x, u)]) ∧ (∀ ns : List Int, ns.length ≤ n → ∃ π', m [.d (.list (ns.map PyData.int))] (0, 0) = some (.bool true, π')) ∧
        ∀ base : Heap, K.In base → base.Ns mainGlobals mg → FnS l.prog w K mg base k fA fd [x] (SPd K 1 m)) :
    PySem.W.WalkO q loose XP (hookS lev fa fn tb).says l.row.toRowW d [] (fun f vs => PySem.call f vs) := by
  refine Att.attach_call hn hdf fun w s₀ s₁ mg mb fA o pm cd doc a vs ns G Y ho hd hcd hmg hobj hints hlen hg => ?_
  obtain ⟨hsys, K, KX, c, hks, ht⟩ := Y
  obtain ⟨fd, m, hb, hm, hF⟩ := F w mg fA _ K KX c ht G.T.g hmg
  obtain ⟨π', em⟩ := hm ns hlen
  exact law_callS KX G.T.g G.T.b G.T.builtins G.T.nolimit hg hobj hints (Nat.le_trans hlen hn2) hr hsys hks hF hb em
end DL

set_option maxHeartbeats 2000000
namespace DL
open PySem PySem.Spec PyProof.Rows L2
set_option autoImplicit false
/-- the def x of the module keeps the promise sp -/
structure Fn (P : Program) (w : World) (K : PySem.W.Frag) (mg : Str → Option Value) (base : Heap) (lev : Nat) (x : Str) (ps : List Str) (sp : List V → Hp → VK → Prop) : Prop where
  ex : ∃ fd, FnS P w K mg base lev (He.ga K x) fd ps sp ∧ Binds K fd ps [] ∧ KBind K fd ps ps ∧ ∃ oc od osl, K.lookup (He.ga K x) = some ⟨oc, od, .func fd, osl⟩
  mg : mg x = some (.ref (He.ga K x))
  kp : PySem.W.keepIn K (.ref (He.ga K x)) = true
theorem Fn.mono {P : Program} {w : World} {K : PySem.W.Frag} {mg : Str → Option Value} {base : Heap} {j k : Nat} {x : Str} {ps : List Str} {sp : List V → Hp → VK → Prop} (F : Fn P w K mg base j x ps sp) (h : j ≤ k) : Fn P w K mg base k x ps sp :=
  let ⟨⟨fd, a, b, c, d⟩, m, p⟩ := F
  ⟨⟨fd, a.mono h, b, c, d⟩, m, p⟩
section
variable {X : Cx} {lev : Nat} {ps : List Str} {sp : List V → Hp → VK → Prop} {x : Str} {p pos : Pos} {e : Expr} {es : List Expr} {kws : List Keyword} {t tk : TA}
theorem pe_fn (F : Fn X.prog X.w X.K X.mg X.base lev x ps sp) (hr : Room lev X.A) (hgd : X.A.guards = some []) (hg : Gl X x) (ha : PA X (e :: es) t)
    (hdb : (x == ("__debug__" : Str)) = false := by decide) (he : starEach (e :: es) X.env = (false, eval e X.env) :: starEach es X.env := by rfl) (hpl : (backTo pos (starEach es X.env)).any (·.1) = false := by rfl) :
    PE X (.Call (.Name x p) (e :: es) [] pos) (tCl sp t) := by
  obtain ⟨fd, a, b, c, _⟩ := F.ex
  exact pe_cl a hr hgd hg F.mg F.kp b ha hdb he hpl
theorem pe_fnK (F : Fn X.prog X.w X.K X.mg X.base lev x ps sp) (hr : Room lev X.A) (hgd : X.A.guards = some []) (hg : Gl X x) (hkw : PK X kws tk)
    (hall : (backToKw pos (keywordEach kws X.env)).all (·.1.isSome) = true := by rfl) (hks : (backToKw pos (keywordEach kws X.env)).filterMap (·.1) = ps := by rfl)
    (hdb : (x == ("__debug__" : Str)) = false := by decide) (hpl : ((backTo pos (starEach [] X.env)).any (·.1) || (backToKw pos (keywordEach kws X.env)).any (·.1.isNone)) = false := by rfl) :
    PE X (.Call (.Name x p) [] kws pos) (tCl sp tk) := by
  obtain ⟨fd, a, b, c, _⟩ := F.ex
  exact pe_clK a hr hgd hg F.mg F.kp c hkw hall hks hdb hpl
theorem pe_cint {i : Int} (hg : Gl X x) (h : ∃ t, X.mg x = some (.int i t)) (hd : (x == ("__debug__" : Str)) = false := by decide) : PE X (.Name x pos) (tC (.int i)) := by
  obtain ⟨t, h⟩ := h
  exact pe_glob hg h ⟨t, rfl⟩ hd
theorem pe_cstr {z : Str} (hg : Gl X x) (h : ∃ t, X.mg x = some (.str z t)) (hd : (x == ("__debug__" : Str)) = false := by decide) : PE X (.Name x pos) (tC (.str z)) := by
  obtain ⟨t, h⟩ := h
  exact pe_glob hg h ⟨t, rfl⟩ hd
/-- a built-in type's name as a value -/
theorem pe_ty {n : String} (hg : Gl X x) (hm : X.mg x = none) (hv : bootBuiltins x = some (.type n)) (hn : x ≠ "__name__" := by decide) (hd : (x == ("__debug__" : Str)) = false := by decide) : PE X (.Name x pos) (tC (.ty n)) :=
  pe_bltn hg hm hv rfl hn hd
end
/-- a def of the text, from the head's facts -/
theorem fn_mk {P : Program} {w : World} {K : PySem.W.Frag} {mg : Str → Option Value} {base : Heap} {lev : Nat} {x : Str} {st : Stmt} {fd : FuncData} {N ps : List Str} {sp : List V → Hp → VK → Prop}
    (F : FunD K x x (defArgs st) (defBody st) (defScope st) [] [] (He.ga K x) fd) (hm : mg x = some (.ref (He.ga K x))) (S : FnScope N ps (defScope st))
    (b : Binds K fd ps []) (kb : KBind K fd ps ps) (len : ∀ vs H Q, sp vs H Q → vs.length = ps.length)
    (hb : ∀ (cdv : Value) (A : Around) (outer : List Env) (s : Shared) (H : Hp) (vs : List V) (Q : VK), Room lev (A.deeper (envOfC x (defScope st) s.heap.objs.size (He.ga K x) cdv)) → (A.deeper (envOfC x (defScope st) s.heap.objs.size (He.ga K x) cdv)).guards = some [] → sp vs H Q →
      ∃ t, PSs (cxOf CX0 P w K mg base N x (defScope st) (He.ga K x) cdv A outer s H E0).nox (defBody st) t ∧ t { nx := fun _ H' => Q .non H', rt := Q } (L2.start N vs) H) : Fn P w K mg base (lev + 1) x ps sp :=
  ⟨⟨fd, fnS_of F S len hb, b, kb, by
    obtain ⟨oc, od, _, _, _, _, _, _, _, osl, _, lk, _⟩ := F.ex
    exact ⟨oc, od, osl, lk⟩⟩, hm, F.kp⟩
theorem kbind_of {K : PySem.W.Frag} {x qual : Str} {params : Arguments} {body : List Stmt} {scope : Scope} {kws : List (Str × V)} {f : Addr} {fd : FuncData} {ps : List Str} (F : FunD K x qual params body scope [] kws f fd)
    (h : ∀ (kV doc pm : Value) (an : Option Addr) (cdv ct : Value) (us : List Value), us.length = ps.length → bindArgs (PySem.W.fnOf x qual params body scope .none kV doc pm an cdv ct) ⟨[], ps.zip us⟩ = pure (ps.zip us)) : KBind K fd ps ps := by
  obtain ⟨oc, od, dV, kV, doc, pm, an, cdv, ct, osl, rfl, lk, hcd, hD, hK⟩ := F.ex
  rcases hD with ⟨_, rfl⟩ | ⟨e, _⟩
  · exact fun s ws _ hl => .of_eq (h kV doc pm an cdv ct ws hl)
  · exact absurd rfl e
/-! #### tuple(range(n)) -/
def gTupRg : PyData → Option PyData
  | .int n => if 0 ≤ n ∧ n ≤ 1000 then some (.tuple (upTo 0 n.toNat)) else none
  | _ => none
theorem ev_tupRg {K : PySem.W.Frag} {te : TE} {f : MX} (e : EvX K te f) : EvE K (tTupRg (tRg1 te)) (fU gTupRg f) := fun ρ π d π' hf pa H0 F H σ Q w s q => by
  obtain ⟨x, e1, e3⟩ := fU_some hf
  unfold gTupRg at e3
  split at e3
  · rename_i n
    split at e3
    · rename_i hn
      cases e3
      refine e ρ π _ π' e1 pa H0 F H σ _ w s fun v F1 H1 p1 r1 => ⟨n, r1.int_inv, ?_, fun p np => ?_⟩
      · unfold RgOk
        first
          | exact ⟨by omega, by omega, by omega, by omega, by omega⟩
          | (refine ⟨?_, ?_⟩ <;> omega)
          | omega
      · have a1 := p1.wd.add (o := .tup (rgV 0 n)) np
        refine q (.ref p) _ _ (p1.trans w a1) (.tup (.inl (.inl upd_same)) ?_)
        have er : rgV 0 n = ((List.range n.toNat).map fun (i : Nat) => V.int (0 + (i : Int))) := by
          unfold rgV
          simp
        rw [er]
        exact RpA.upTo 0 n.toNat
    · cases e3
  · cases e3
end DL

set_option maxHeartbeats 2000000
namespace DL
open PySem PySem.Spec PyProof.Rows L2
set_option autoImplicit false
def EvZ (K : PySem.W.Frag) (ts : TS) (g : MS) : Prop := ∀ ρ π o π', g ρ π = some (o, π') → ∀ F0 H0 pa F H σ D, InvS K none F0 H0 pa F H π σ ρ → OutK K none F0 H0 F π' o D → ts D σ H
section
variable {K : PySem.W.Frag} {te : TE} {ts tu : TS} {f : MX} {g h : MS} {l : ML} {b : MT} {tt : TT}
theorem EvS.z (e : EvS K ts g) : EvZ K ts g := fun ρ π o π' hf F0 H0 => e ρ π o π' hf none F0 H0
theorem evz_pot {i : Nat} (e : EvN K te l) : EvZ K (tAsg te (gName i)) (sSetP i l) := evs_setP e
theorem evz_seq (e1 : EvZ K ts g) (e2 : EvZ K tu h) : EvZ K (tSeq ts tu) (sSeq g h) := fun ρ π o π' hf F0 H0 pa F H σ D i q => by
  unfold sSeq at hf
  cases eg : g ρ π with
  | none => rw [eg] at hf; cases hf
  | some r =>
    obtain ⟨o1, π1⟩ := r
    rw [eg] at hf
    simp only [Option.bind_some] at hf
    refine e1 ρ π o1 π1 eg F0 H0 pa F H σ { D with nx := tu D } i ?_
    cases o1 with
    | nx ρ1 => exact fun pa' F' H' σ' i' z => e2 ρ1 π1 o π' hf F0 H0 pa' F' H' σ' D i' (q.later z)
    | rt d => cases hf; exact q
    | bk ρ1 => cases hf; exact q
    | ct ρ1 => cases hf; exact q
theorem evz_if (e : EvT K tt b) (e1 : EvZ K ts g) (e2 : EvZ K tu h) : EvZ K (tIfS tt ts tu) (sIf b g h) := fun ρ π o π' hf F0 H0 pa F H σ D iv q => by
  unfold sIf at hf
  cases eb : b ρ π with
  | none => rw [eb] at hf; cases hf
  | some r =>
    obtain ⟨k, π1⟩ := r
    rw [eb] at hf
    simp only [Option.bind_some] at hf
    refine e ρ π k π1 eb pa H0 F H σ _ iv.e.wd iv.s fun F' H' p => ?_
    cases k with
    | true =>
      rw [if_pos rfl] at hf ⊢
      exact e1 ρ π1 o π' hf F0 H0 pa F' H' σ D (iv.step p) (q.later p.ff)
    | false =>
      rw [if_neg Bool.false_ne_true] at hf ⊢
      exact e2 ρ π1 o π' hf F0 H0 pa F' H' σ D (iv.step p) (q.later p.ff)
theorem evz_for {wi : TI} {gt : TG} {vs : List Nat} {it : ML} {t : MG} (ei : EvI K wi it) (eg : EvG K gt vs t) (eb : EvZ K ts g) : EvZ K (tFor wi gt ts) (sFor it t g) := fun ρ π o π' hf F0 H0 pa F H σ D iv q => by
  unfold sFor at hf
  cases e1 : it ρ π with
  | none => rw [e1] at hf; cases hf
  | some o1 =>
    obtain ⟨es, π1⟩ := o1
    rw [e1] at hf
    simp only [Option.bind_some] at hf
    refine ei ρ π es π1 e1 pa H0 F H σ _ iv.e.wd iv.s fun J F1 H1 p1 ok => ?_
    have iv1 := iv.step p1
    refine ⟨fun i m σc Hc => m = es.length - i ∧ i ≤ es.length ∧ ∃ (pc : Option Addr) (Fc : Hp) (ρc : Ev) (πc : Pt), InvS K none F0 H0 pc Fc Hc πc σc ρc ∧ Same F1 Fc ∧ forM t g (es.drop i) ρc πc = some (o, π'),
      ⟨es.length, by simp, Nat.zero_le _, pa, F1, ρ, π1, iv1, Same.refl _, by rw [List.drop_zero]; exact hf⟩, ?_⟩
    rintro i m σc Hc ⟨rfl, hi, pc, Fc, ρc, πc, ivc, sc, hm⟩
    by_cases hlt : i < es.length
    · refine .inr ⟨ok.go pc i Fc Hc πc hlt sc ivc.e.wd, fun σn Hn => ∃ (pc : Option Addr) (Fc : Hp) (ρc : Ev) (πc : Pt), InvS K none F0 H0 pc Fc Hn πc σn ρc ∧ Same F1 Fc ∧ forM t g (es.drop (i + 1)) ρc πc = some (o, π'),
        fun σn Hn hn => ⟨es.length - (i + 1), by omega, rfl, hlt, hn⟩, fun x Hx hy => ?_⟩
      have ed : es.drop i = es[i] :: es.drop (i + 1) := List.drop_eq_getElem_cons hlt
      obtain ⟨Fx, px, rx⟩ := ok.yld pc i Fc Hc πc x Hx es[i] (List.getElem?_eq_getElem hlt) sc ivc.e.wd hy
      rw [ed] at hm
      unfold forM at hm
      cases e2 : t es[i] ρc with
      | none => rw [e2] at hm; cases hm
      | some ρ1 =>
        rw [e2] at hm
        simp only [Option.bind_some] at hm
        have ivx := ivc.step px
        refine eg es[i] ρc ρ1 e2 pc H0 Fx Hx πc _ x _ ivx.e.wd ivx.s rx fun σ2 s2 _ => ?_
        cases e3 : g ρ1 πc with
        | none => rw [e3] at hm; cases hm
        | some o3 =>
          obtain ⟨ob, π2⟩ := o3
          rw [e3] at hm
          simp only [Option.bind_some] at hm
          refine eb ρ1 πc ob π2 e3 F0 H0 pc Fx Hx σ2 _ ⟨ivx.e, s2⟩ ?_
          have scx := sc.trans px.ff
          cases ob with
          | nx ρ2 => exact fun pd Fd Hd σd ivd sd => ⟨pd, Fd, ρ2, π2, ivd, scx.trans sd, hm⟩
          | ct ρ2 => exact fun pd Fd Hd σd ivd sd => ⟨pd, Fd, ρ2, π2, ivd, scx.trans sd, hm⟩
          | bk ρ2 => cases hm; exact fun pd Fd Hd σd ivd sd => q pd Fd Hd σd ivd (p1.ff.trans (scx.trans sd))
          | rt d => cases hm; exact fun pd Fd Hd v ivd r sd => q pd Fd Hd v ivd r (p1.ff.trans (scx.trans sd))
    · have ei2 : i = es.length := by omega
      subst ei2
      rw [List.drop_length] at hm
      cases hm
      exact .inl ⟨ok.stop pc Fc Hc _ sc ivc.e.wd, q pc Fc Hc σc ivc (p1.ff.trans sc)⟩
end
def noP : Sl → Bool
  | .p => false
  | _ => true
def mOfZ (N : Nat) (g : MS) : MF := fun sl π => if sl.all noP = true then (asRt (g (entry N sl) (0, 0))).map fun (d, _) => (d, π) else none
theorem body_okZ {K : PySem.W.Frag} {ts : TS} {g : MS} {N : List Str} {n : Nat} (e : EvZ K ts g) {vs : List V} {H : Hp} {Q : VK} (h : SPd K n (mOfZ N.length g) vs H Q) : ts { nx := fun _ H' => Q .non H', rt := Q } (L2.start N vs) H := by
  obtain ⟨pa, F, π, sl, d, π', hl, w, s, hm, q⟩ := h
  unfold mOfZ at hm
  split at hm
  · rename_i hno
    cases hg : g (entry N.length sl) (0, 0) with
    | none => rw [hg] at hm; cases hm
    | some r =>
      obtain ⟨o, π1⟩ := r
      rw [hg] at hm
      have w0 : Wd none F H (0, 0) := ⟨w.same, w.sys, fun a z => nomatch z⟩
      have s0 : StOk K none H F H (vs.map some) sl := ⟨s.len, fun i u eu => by
        have z := s.at_ i u eu
        cases u with
        | e => trivial
        | d x => exact z
        | p =>
          have y := (List.all_eq_true.mp hno) _ (List.mem_of_getElem? eu)
          exact absurd y Bool.false_ne_true
        | m xs =>
          obtain ⟨a, us, z1, z2, z3, z4, z5⟩ := z
          exact ⟨a, us, z1, z2, z3, (fun y => nomatch y), z5⟩, s.apart⟩
      have fin : ∀ {F' H' : Hp} {π2 : Pt}, Post none F H F' H' π2 → Post pa F H F' H' π := fun {F' H' π2} p => by
        refine ⟨p.ff, ⟨p.wd.same, p.wd.sys, fun a z => ?_⟩, fun b o hb _ => p.keep b o hb (fun y => nomatch y), p.new⟩
        obtain ⟨q1, q2⟩ := w.pot a z
        refine ⟨?_, p.keep a _ q2 (fun y => nomatch y)⟩
        cases y : F' a with
        | none => rfl
        | some o =>
          rcases p.new a o y with x | x
          · rw [q1] at x; cases x
          · rw [q2] at x; cases x
      refine e _ (0, 0) o π1 hg F H none F H (L2.start N vs) _ ⟨EndS.start w0, stok_entry s0⟩ ?_
      cases o with
      | nx ρ' => cases hm; exact fun pa' F' H' σ' i z => q .non F' H' (fin i.e.post) .non
      | rt d' => cases hm; exact fun pa' F' H' v i r z => q v F' H' (fin i.post) r
      | bk ρ' => cases hm
      | ct ρ' => cases hm
  · cases hm

abbrev MR := Ev → Pt → Option (List PyData × Pt)
def EvR (K : PySem.W.Frag) (ts : TS) (g : MR) : Prop := ∀ ρ π ds π', g ρ π = some (ds, π') → ∀ pa0 F0 H0 pa F H σ D, InvS K pa0 F0 H0 pa F H π σ ρ →
  (∀ pa' F' H' a vs, EndS pa0 F0 H0 pa' F' H' π' → H0 a = none → F' a = none → pa' ≠ some a → H' a = some (.lst vs) → RpA K F' vs ds → D.rt (.ref a) H') → ts D σ H
section
variable {K : PySem.W.Frag} {te : TE} {ts tu : TS} {g : MS} {h : MR} {l : ML}
theorem evr_ret (e : EvN K te l) : EvR K (tRet te) l := fun ρ π ds π' hf pa0 F0 H0 pa F H σ D iv q =>
  e ρ π ds π' hf pa H0 F H σ _ iv.e.wd iv.s fun a vs F' H' p ha hF hp hH r => q pa F' H' a vs (iv.e.step p) (iv.e.fresh ha) hF hp hH r
def rSeq (g : MS) (h : MR) : MR := fun ρ π => (g ρ π).bind fun (o, π1) => match o with
  | .nx ρ1 => h ρ1 π1
  | _ => none
theorem evr_seq (e1 : EvS K ts g) (e2 : EvR K tu h) : EvR K (tSeq ts tu) (rSeq g h) := fun ρ π ds π' hf pa0 F0 H0 pa F H σ D i q => by
  unfold rSeq at hf
  cases eg : g ρ π with
  | none => rw [eg] at hf; cases hf
  | some r =>
    obtain ⟨o1, π1⟩ := r
    rw [eg] at hf
    simp only [Option.bind_some] at hf
    refine e1 ρ π o1 π1 eg pa0 F0 H0 pa F H σ { D with nx := tu D } i ?_
    cases o1 with
    | nx ρ1 => exact fun pa' F' H' σ' i' z => e2 ρ1 π1 ds π' hf pa0 F0 H0 pa' F' H' σ' D i' q
    | rt d => cases hf
    | bk ρ1 => cases hf
    | ct ρ1 => cases hf
end
def mOfR (N : Nat) (g : MR) : MFN := fun sl π => g (entry N sl) π
theorem body_okR {K : PySem.W.Frag} {ts : TS} {g : MR} {N : List Str} {n : Nat} (e : EvR K ts g) {vs : List V} {H : Hp} {Q : VK} (h : SPn K n (mOfR N.length g) vs H Q) : ts { nx := fun _ H' => Q .non H', rt := Q } (L2.start N vs) H := by
  obtain ⟨pa, F, π, sl, ds, π', hl, w, s, hm, q⟩ := h
  refine e _ π ds π' hm pa F H pa F H (L2.start N vs) _ ⟨EndS.start w, stok_entry s⟩ fun pa' F' H' a us i ha hF hp hH r => q a us F' H' i.post ha hF ?_ hH r
  rcases i.pt with y | ⟨y, _⟩
  · rw [← y]; exact hp
  · rw [y]; exact fun z => nomatch z
end DL

set_option maxHeartbeats 2000000
namespace DL
open PySem PySem.Spec PyProof.Rows L2
set_option autoImplicit false
/-! #### what never runs -/
section
variable {K : PySem.W.Frag}
def sNever : MS := fun _ _ => none
theorem evs_never {ts : TS} : EvS K ts sNever := fun ρ π o π' hf => nomatch hf
end
def maxI : List Int → Int
  | [] => 0
  | [n] => n
  | n :: m :: r => max n (maxI (m :: r))
def minI : List Int → Int
  | [] => 0
  | [n] => n
  | n :: m :: r => min n (minI (m :: r))
theorem maxI_spec : ∀ ns : List Int, ns ≠ [] → maxI ns ∈ ns ∧ ∀ y ∈ ns, y ≤ maxI ns
  | [], h => absurd rfl h
  | [n], _ => ⟨List.mem_cons_self, fun y hy => by rw [List.mem_singleton] at hy; rw [hy]; exact Int.le_refl _⟩
  | n :: m :: r, _ => by
    obtain ⟨h1, h2⟩ := maxI_spec (m :: r) (by simp)
    show max n (maxI (m :: r)) ∈ _ ∧ ∀ y ∈ _, y ≤ max n (maxI (m :: r))
    refine ⟨?_, fun y hy => ?_⟩
    · rcases Int.le_total n (maxI (m :: r)) with z | z
      · rw [Int.max_eq_right z]; exact List.mem_cons_of_mem _ h1
      · rw [Int.max_eq_left z]; exact List.mem_cons_self
    · rcases List.mem_cons.mp hy with e | e
      · rw [e]; exact Int.le_max_left _ _
      · exact Int.le_trans (h2 y e) (Int.le_max_right _ _)
theorem minI_spec : ∀ ns : List Int, ns ≠ [] → minI ns ∈ ns ∧ ∀ y ∈ ns, minI ns ≤ y
  | [], h => absurd rfl h
  | [n], _ => ⟨List.mem_cons_self, fun y hy => by rw [List.mem_singleton] at hy; rw [hy]; exact Int.le_refl _⟩
  | n :: m :: r, _ => by
    obtain ⟨h1, h2⟩ := minI_spec (m :: r) (by simp)
    show min n (minI (m :: r)) ∈ _ ∧ ∀ y ∈ _, min n (minI (m :: r)) ≤ y
    refine ⟨?_, fun y hy => ?_⟩
    · rcases Int.le_total n (minI (m :: r)) with z | z
      · rw [Int.min_eq_left z]; exact List.mem_cons_self
      · rw [Int.min_eq_right z]; exact List.mem_cons_of_mem _ h1
    · rcases List.mem_cons.mp hy with e | e
      · rw [e]; exact Int.min_le_left _ _
      · exact Int.le_trans (Int.min_le_right _ _) (h2 y e)
def gMaxL : PyData → Option PyData
  | .list ds => (ints? ds).bind fun ns => if ns.isEmpty = true then none else some (.int (maxI ns))
  | _ => none
def gMinL : PyData → Option PyData
  | .list ds => (ints? ds).bind fun ns => if ns.isEmpty = true then none else some (.int (minI ns))
  | _ => none
section
variable {X : Cx} {K : PySem.W.Frag}
theorem sim_maxL : SimC1 K (rMax K) gMaxL := by
  intro pa F H π x dx d Q w rx e q
  unfold gMaxL at e
  split at e
  · rename_i ds
    cases e1 : ints? ds with
    | none => rw [e1] at e; cases e
    | some ns =>
      rw [e1] at e
      simp only [Option.bind_some] at e
      split at e
      · cases e
      · rename_i hne
        cases e
        obtain ⟨a, rfl, hs⟩ := rx.ints w e1
        have hn : ns ≠ [] := fun z => hne (by rw [z]; rfl)
        obtain ⟨m1, m2⟩ := maxI_spec ns hn
        refine ⟨a, ns, rfl, hs, List.length_pos_iff.mpr hn, fun m h1 h2 => ?_⟩
        have : m = maxI ns := by
          have a1 := m2 m h1
          have a2 := h2 _ m1
          omega
        rw [this]
        exact q _ F H (.refl w) (.int _)
  · cases e
theorem sim_minL : SimC1 K (rMin K) gMinL := by
  intro pa F H π x dx d Q w rx e q
  unfold gMinL at e
  split at e
  · rename_i ds
    cases e1 : ints? ds with
    | none => rw [e1] at e; cases e
    | some ns =>
      rw [e1] at e
      simp only [Option.bind_some] at e
      split at e
      · cases e
      · rename_i hne
        cases e
        obtain ⟨a, rfl, hs⟩ := rx.ints w e1
        have hn : ns ≠ [] := fun z => hne (by rw [z]; rfl)
        obtain ⟨m1, m2⟩ := minI_spec ns hn
        refine ⟨a, ns, rfl, hs, List.length_pos_iff.mpr hn, fun m h1 h2 => ?_⟩
        have : m = minI ns := by
          have a1 := m2 m h1
          have a2 := h2 _ m1
          omega
        rw [this]
        exact q _ F H (.refl w) (.int _)
  · cases e
/-! #### is of bools -/
def gIsB (neg : Bool) : PyData → PyData → Option PyData
  | .bool a, .bool b => some (.bool (if neg = true then !decide (a = b) else decide (a = b)))
  | _, _ => none
theorem sim_isB : Sim2 K rIsB (gIsB false) := by
  intro pa F H π x y dx dy d Q w rx ry e q
  unfold gIsB at e
  split at e
  · cases e
    exact ⟨_, _, rx.bool_inv, ry.bool_inv, q _ F H (.refl w) (.bl _)⟩
  · cases e
theorem sim_notB : Sim2 K rNotB (gIsB true) := by
  intro pa F H π x y dx dy d Q w rx ry e q
  unfold gIsB at e
  split at e
  · cases e
    exact ⟨_, _, rx.bool_inv, ry.bool_inv, q _ F H (.refl w) (.bl _)⟩
  · cases e
/-! #### list[::-1] -/
def fRevL (f : MX) : ML := fun ρ π => (asL (f ρ π)).map fun (xs, π1) => (xs.reverse, π1)
theorem RpA.rev {F : Hp} : ∀ {vs : List V} {ds : List PyData}, RpA K F vs ds → RpA K F vs.reverse ds.reverse
  | _, _, .nil => .nil
  | _, _, .cons r t => by
    rw [List.reverse_cons, List.reverse_cons]
    exact (RpA.rev t).append (.cons r .nil)
theorem ev_revL {te : TE} {f : MX} (e : EvX K te f) : EvN K (tRevL K te) (fRevL f) := fun ρ π ds π' hf pa H0 F H σ Q w s q => by
  unfold fRevL at hf
  cases e1 : asL (f ρ π) with
  | none => rw [e1] at hf; cases hf
  | some o1 =>
    obtain ⟨xs, π1⟩ := o1
    rw [e1] at hf
    cases hf
    refine e ρ π _ _ (asL_some e1) pa H0 F H σ _ w s fun v F1 H1 p1 r1 => ?_
    obtain ⟨a, vs, rfl, h, r⟩ := r1.lst_inv p1.wd
    refine ⟨a, vs, rfl, h, fun p np => ?_⟩
    exact q p _ F1 _ (p1.trans w (p1.wd.addM np)) (p1.fresh np) (p1.wd.free np) (p1.wd.pa_ne np) upd_same (RpA.rev r)
/-! #### list * int -/
def fRepL (l : ML) (f : MX) : ML := fun ρ π => (l ρ π).bind fun (xs, π1) => (f ρ π1).bind fun (y, π2) => match y with
  | .int k => if okR k = true ∧ xs.length * k.toNat ≤ sizeLine then some ((List.replicate k.toNat xs).flatten, π2) else none
  | _ => none
theorem ev_repL {te tk : TE} {l : ML} {f : MX} (e : EvN K te l) (e2 : EvX K tk f) : EvN K (tOp rRep te tk) (fRepL l f) := fun ρ π ds π' hf pa H0 F H σ Q w s q => by
  unfold fRepL at hf
  cases e1 : l ρ π with
  | none => rw [e1] at hf; cases hf
  | some o1 =>
    obtain ⟨xs, π1⟩ := o1
    rw [e1] at hf
    simp only [Option.bind_some] at hf
    cases e3 : f ρ π1 with
    | none => rw [e3] at hf; cases hf
    | some o3 =>
      obtain ⟨y, π2⟩ := o3
      rw [e3] at hf
      simp only [Option.bind_some] at hf
      split at hf
      · rename_i k
        split at hf
        · rename_i hk
          cases hf
          refine e ρ π xs π1 e1 pa H0 F H σ _ w s fun a vs F1 H1 p1 ha hF hp hH r1 => ?_
          refine e2 ρ π1 _ _ e3 pa H0 F1 H1 σ _ p1.wd (s.post w p1) fun u F2 H2 p2 r2 => ?_
          have h2 := p2.keep a _ hH hp
          have e62 : (2 : Int) ^ 62 = 4611686018427387904 := by decide
          have e63 : (2 : Int) ^ 63 = 9223372036854775808 := by decide
          have hk1 := (okR_iff hk.1).1
          have hk2 := (okR_iff hk.1).2
          rw [e62] at hk1 hk2
          refine ⟨a, k, vs, rfl, r2.int_inv, h2, by rw [e63]; omega, by rw [e63]; omega, by rw [r1.length]; exact hk.2, fun p np => ?_⟩
          have a1 := p2.wd.addM (o := .lst (List.replicate k.toNat vs).flatten) np
          have p12 := p1.trans w p2
          refine q p _ F2 _ (p12.trans w a1) (p12.fresh np) (p2.wd.free np) (p2.wd.pa_ne np) upd_same ?_
          exact (r1.mono p2.ff).rep _
        · cases hf
      · cases hf
end
def permL {α : Type} (d : α) (ix : List Nat) (xs : List α) : List α := ix.map fun i => xs.getD i d
def tClP (ix : List Nat) (sp : List V → Hp → VK → Prop) (t : TA) : TE := fun σ H Q => t σ H fun vs H1 => vs.length = ix.length ∧ sp (permL .non ix vs) H1 Q
def KBindP (K : PySem.W.Frag) (fd : FuncData) (ps ks : List Str) (ix : List Nat) : Prop := ∀ (s : Shared) (ws : List Value), K.In s.heap → ws.length = ps.length → BindsTo s fd ⟨[], ks.zip ws⟩ (ps.zip (permL .none ix ws))
theorem valsGetD {vs : List V} {us : List Value} (r : Vals vs us) : ∀ i : Nat, RelV (vs.getD i .non) (us.getD i .none) := by
  induction r with
  | nil => intro i; exact rfl
  | cons r1 r2 ih =>
    intro i
    cases i with
    | zero => exact r1
    | succ i => exact ih i
theorem valsPerm {vs : List V} {us : List Value} (r : Vals vs us) : ∀ ix : List Nat, Vals (permL .non ix vs) (permL .none ix us)
  | [] => .nil
  | i :: ix => .cons (valsGetD r i) (valsPerm r ix)
section
variable {X : Cx} {k : Nat} {f : Addr} {fd : FuncData} {ps ks : List Str} {sp : List V → Hp → VK → Prop} {x : Str} {p pos : Pos} {kws : List Keyword} {tk : TA} {ix : List Nat}
theorem pe_clP (F : FnS X.prog X.w X.K X.mg X.base k f fd ps sp) (hr : Room k X.A) (hgd : X.A.guards = some []) (hg : Gl X x) (hm : X.mg x = some (.ref f)) (hk : PySem.W.keepIn X.K (.ref f) = true) (hb : KBindP X.K fd ps ks ix) (hix : ix.length = ps.length)
    (hkw : PK X kws tk) (hall : (backToKw pos (keywordEach kws X.env)).all (·.1.isSome) = true := by rfl) (hks : (backToKw pos (keywordEach kws X.env)).filterMap (·.1) = ks := by rfl)
    (hdb : (x == ("__debug__" : Str)) = false := by decide) (hpl : ((backTo pos (starEach [] X.env)).any (·.1) || (backToKw pos (keywordEach kws X.env)).any (·.1.isNone)) = false := by rfl) :
    PE X (.Call (.Name x p) [] kws pos) (tClP ix sp tk) := by
  refine ⟨fun pins s σ H Q I h => wpAny_Call_Name_kw (ld_glob I hg hm ?_ hdb)⟩
  refine PySem.W.callWith_KW0 (h₀ := X.base) I.ok.mod.kin hk hall (thn (hkw.run pos pins s σ H _ I h) fun ws s1 ⟨zs, H1, I1, r, hl, q⟩ => ⟨I1.kIn, ?_⟩) hpl
  rw [hks]
  have hw : ws.length = ps.length := by rw [← r.length, hl, hix]
  refine wpAny_call (codeAny_mono (run_fnS F hr hgd I1 (hb s1 ws I1.kIn hw) (valsPerm r ix) q) fun r s' hq => ?_)
  cases r with
  | error e => exact hq
  | ok fl =>
    cases fl with
    | ret u => exact hq
    | next => exact hq.elim
    | brk => exact hq.elim
    | cont => exact hq.elim
end
theorem kbindP_of {K : PySem.W.Frag} {x qual : Str} {params : Arguments} {body : List Stmt} {scope : Scope} {kws : List (Str × V)} {f : Addr} {fd : FuncData} {ps ks : List Str} {ix : List Nat} (F : FunD K x qual params body scope [] kws f fd)
    (h : ∀ (kV doc pm : Value) (an : Option Addr) (cdv ct : Value) (us : List Value), us.length = ps.length → bindArgs (PySem.W.fnOf x qual params body scope .none kV doc pm an cdv ct) ⟨[], ks.zip us⟩ = pure (ps.zip (permL .none ix us))) : KBindP K fd ps ks ix := by
  obtain ⟨oc, od, dV, kV, doc, pm, an, cdv, ct, osl, rfl, lk, hcd, hD, hK⟩ := F.ex
  rcases hD with ⟨_, rfl⟩ | ⟨e, _⟩
  · exact fun s ws _ hl => .of_eq (h kV doc pm an cdv ct ws hl)
  · exact absurd rfl e
theorem pe_fnKP {X : Cx} {lev : Nat} {ps ks : List Str} {sp : List V → Hp → VK → Prop} {x : Str} {p pos : Pos} {kws : List Keyword} {tk : TA} {ix : List Nat} {params : Arguments} {body : List Stmt} {scope : Scope}
    (F : Fn X.prog X.w X.K X.mg X.base lev x ps sp) (D : ∃ fd, FunD X.K x x params body scope [] [] (He.ga X.K x) fd)
    (h : ∀ (kV doc pm : Value) (an : Option Addr) (cdv ct : Value) (us : List Value), us.length = ps.length → bindArgs (PySem.W.fnOf x x params body scope .none kV doc pm an cdv ct) ⟨[], ks.zip us⟩ = pure (ps.zip (permL .none ix us)))
    (hix : ix.length = ps.length) (hr : Room lev X.A) (hgd : X.A.guards = some []) (hg : Gl X x) (hkw : PK X kws tk)
    (hall : (backToKw pos (keywordEach kws X.env)).all (·.1.isSome) = true := by rfl) (hks : (backToKw pos (keywordEach kws X.env)).filterMap (·.1) = ks := by rfl)
    (hdb : (x == ("__debug__" : Str)) = false := by decide) (hpl : ((backTo pos (starEach [] X.env)).any (·.1) || (backToKw pos (keywordEach kws X.env)).any (·.1.isNone)) = false := by rfl) :
    PE X (.Call (.Name x p) [] kws pos) (tClP ix sp tk) := by
  obtain ⟨fd, a, b, c, oc, od, osl, lk⟩ := F.ex
  obtain ⟨fd2, D2⟩ := D
  have e : fd2 = fd := by
    obtain ⟨oc2, od2, _, _, _, _, _, _, _, osl2, _, lk2, _⟩ := D2.ex
    rw [lk] at lk2
    cases lk2
    rfl
  subst e
  exact pe_clP a hr hgd hg F.mg F.kp (kbindP_of D2 h) hix hkw hall hks hdb hpl
section
variable {K : PySem.W.Frag} {tr : TA} {r : MA} {n : Nat} {ix : List Nat}
theorem StOk.perm {pa : Option Addr} {H0 H1 F H : Hp} {vs : List V} {sl : List Sl} (s : StOk K pa H0 F H (vs.map some) sl) (h : sl.all Sl.dp = true) (ix : List Nat) : StOk K pa H1 F H ((permL .non ix vs).map some) (permL .e ix sl) := by
  have item : ∀ i, SlOk K pa H1 F H (some (vs.getD i .non)) (sl.getD i .e) ∧ ∀ xs, sl.getD i .e ≠ .m xs := fun i => by
    by_cases hi : i < sl.length
    · have e1 : sl[i]? = some (sl.getD i .e) := by rw [List.getD_eq_getElem?_getD, List.getElem?_eq_getElem hi]; rfl
      have hv : i < vs.length := by have := s.len; rw [List.length_map] at this; omega
      have e2 : (vs.map some).getD i none = some (vs.getD i .non) := by
        rw [List.getD_eq_getElem?_getD, List.getD_eq_getElem?_getD, List.getElem?_map, List.getElem?_eq_getElem hv]
        rfl
      have z := s.at_ i _ e1
      rw [e2] at z
      have hd := (List.all_eq_true.mp h) _ (List.mem_of_getElem? e1)
      cases hs : sl.getD i .e with
      | e => rw [hs] at hd; cases hd
      | d x => rw [hs] at z; exact ⟨z, fun xs y => nomatch y⟩
      | p => rw [hs] at z; exact ⟨z, fun xs y => nomatch y⟩
      | m xs => rw [hs] at hd; cases hd
    · have e1 : sl.getD i .e = .e := by rw [List.getD_eq_getElem?_getD, List.getElem?_eq_none (by omega)]; rfl
      rw [e1]
      exact ⟨trivial, fun xs y => nomatch y⟩
  refine ⟨by simp [permL], fun j u e => ?_, fun j l xs ys ne e1 e2 => ?_⟩
  · unfold permL at e ⊢
    rw [List.getElem?_map] at e
    cases q : ix[j]? with
    | none => rw [q] at e; cases e
    | some i =>
      rw [q] at e
      cases e
      have : ((List.map (fun i => vs.getD i .non) ix).map some).getD j none = some (vs.getD i .non) := by
        rw [List.getD_eq_getElem?_getD, List.getElem?_map, List.getElem?_map, q]
        rfl
      rw [this]
      exact (item i).1
  · unfold permL at e1
    rw [List.getElem?_map] at e1
    cases q : ix[j]? with
    | none => rw [q] at e1; cases e1
    | some i =>
      rw [q] at e1
      have e1 : some (sl.getD i .e) = some (.m xs) := e1
      exact absurd (Option.some.inj e1) ((item i).2 xs)
def fClP (ix : List Nat) (m : MF) (r : MA) : MX := fun ρ π => (r ρ π).bind fun (sl, π1) => if sl.length = ix.length ∧ sl.all Sl.dp = true then m (permL .e ix sl) π1 else none
theorem ev_clP {m : MF} (er : EvAr K tr r) : EvE K (tClP ix (SPd K ix.length m) tr) (fClP ix m r) := fun ρ π d π' hf pa H0 F H σ Q w s q => by
  unfold fClP at hf
  cases e1 : r ρ π with
  | none => rw [e1] at hf; cases hf
  | some o1 =>
    obtain ⟨sl, π1⟩ := o1
    rw [e1] at hf
    simp only [Option.bind_some] at hf
    split at hf
    · rename_i hn
      refine er ρ π sl π1 e1 pa H0 F H σ _ w s fun vs F1 H1 p1 s1 => ⟨by rw [← hn.1, ← s1.len, List.length_map], ?_⟩
      exact ⟨pa, F1, π1, permL .e ix sl, d, π', by simp [permL], p1.wd, s1.perm hn.2 ix, hf, fun v F' H' p2 r2 => q v F' H' (p1.trans w p2) r2⟩
    · cases hf
def Sl.isD : Sl → Bool
  | .d _ => true
  | _ => false
def fClQ (n : Nat) (m : MF) (r : MA) : MX := fun ρ π => (r ρ π).bind fun (sl, π1) => match sl with
  | .m [.int a, .int b] :: rest => if rest.length + 1 = n ∧ rest.all Sl.isD = true then (m (.p :: rest) (a, b)).map fun (d, _) => (d, π1) else none
  | _ => none
theorem ev_clQ {m : MF} (er : EvAr K tr r) : EvE K (tCl (SPd K n m) tr) (fClQ n m r) := fun ρ π d π' hf pa H0 F H σ Q w s q => by
  unfold fClQ at hf
  cases e1 : r ρ π with
  | none => rw [e1] at hf; cases hf
  | some o1 =>
    obtain ⟨sl, π1⟩ := o1
    rw [e1] at hf
    simp only [Option.bind_some] at hf
    split at hf
    · rename_i a b rest
      split at hf
      · rename_i hn
        cases e2 : m (.p :: rest) (a, b) with
        | none => rw [e2] at hf; cases hf
        | some o2 =>
          obtain ⟨d', π2⟩ := o2
          rw [e2] at hf
          cases hf
          refine er ρ π _ _ e1 pa H0 F H σ _ w s fun vs F1 H1 p1 s1 => ?_
          obtain ⟨c, us, ec, h0, h1, h2, h3, h4⟩ := s1.own (i := 0) rfl
          have eus : us = [.int a, .int b] := by
            cases h4 with
            | cons r1 t => cases t with
              | cons r2 t2 =>
                cases t2
                rw [r1.int_inv, r2.int_inv]
          subst eus
          have hl : vs.length = rest.length + 1 := by
            have := s1.len
            rw [List.length_map] at this
            simpa using this
          refine ⟨some c, F1, (a, b), .p :: rest, _, π2, by rw [hl]; exact hn.1, ⟨p1.wd.same, p1.wd.sys, fun z hz => by cases hz; exact ⟨h1, h3⟩⟩, ⟨s1.len, fun i u eu => ?_, fun i j xs ys ne q1 q2 => ?_⟩, e2, fun v F' H' p2 r2 => q v F' H' ⟨p1.ff.trans p2.ff, ⟨p2.wd.same, p2.wd.sys, fun z hz => ?_⟩, fun y o hy ny => ?_, fun y o hy => ?_⟩ r2⟩
          · cases i with
            | zero =>
              cases eu
              refine ⟨c, ?_, rfl⟩
              rw [List.getD_eq_getElem?_getD, ec]
              rfl
            | succ i =>
              have eu' : rest[i]? = some u := eu
              have z := s1.at_ (i + 1) u eu'
              have hd := (List.all_eq_true.mp hn.2) _ (List.mem_of_getElem? eu')
              cases u with
              | d x => exact z
              | e => cases hd
              | m xs => cases hd
              | p => cases hd
          · cases i with
            | zero => cases q1
            | succ i =>
              have q1' : rest[i]? = some (.m xs) := q1
              have hd := (List.all_eq_true.mp hn.2) _ (List.mem_of_getElem? q1')
              cases hd
          · obtain ⟨y1, y2⟩ := p1.wd.pot z hz
            have nc : some c ≠ some z := fun y => h2 (by rw [hz, y])
            refine ⟨?_, p2.keep z _ y2 nc⟩
            cases y : F' z with
            | none => rfl
            | some o =>
              rcases p2.new z o y with x | x
              · rw [y1] at x; cases x
              · rw [y2] at x; cases x
          · have nc : some c ≠ some y := fun z => by
              cases z
              rw [h0] at hy
              cases hy
            exact p2.keep y o (p1.keep y o hy ny) nc
          · rcases p2.new y o hy with z | z
            · exact p1.new y o z
            · exact .inr (p1.fresh z)
      · cases hf
    · cases hf
end
end DL

set_option maxHeartbeats 2000000
namespace DL
open PySem PySem.Spec PyProof.Rows L2
set_option autoImplicit false
def gNames : List Nat → TGs
  | [] => gNil
  | i :: r => gCons (gName i) (gNames r)
def setAll : Ev → List Nat → List Sl → Ev
  | ρ, i :: ix, u :: sl => setAll (ρ.set i u) ix sl
  | ρ, _, _ => ρ
section
variable {K : PySem.W.Frag} {tr : TA} {r : MA}
theorem puts {pa : Option Addr} {H0 F H : Hp} {Q : St → Hp → Prop} : ∀ (ix : List Nat) (vs : List V) (sl : List Sl) (σ : St) (ρ : Ev), vs.length = ix.length → sl.length = ix.length → StOk K pa H0 F H σ ρ →
    (∀ (k : Nat) (u : Sl) (v : V), sl[k]? = some u → vs[k]? = some v → SlOk K pa H0 F H (some v) u ∧ u ≠ .p) →
    (∀ (k : Nat) (xs : List PyData) (v : V), sl[k]? = some (.m xs) → vs[k]? = some v → ∀ j ys, ρ[j]? = some (.m ys) → σ.getD j none ≠ some v) →
    (∀ (k l : Nat) (xs ys : List PyData) (v w : V), k ≠ l → sl[k]? = some (.m xs) → sl[l]? = some (.m ys) → vs[k]? = some v → vs[l]? = some w → v ≠ w) →
    (∀ σ', StOk K pa H0 F H σ' (setAll ρ ix sl) → Q σ' H) → gNames ix vs σ H Q
  | [], vs, sl, σ, ρ, hv, hs, s, _, _, _, q => by
    cases vs with
    | nil =>
      cases sl with
      | nil => exact ⟨rfl, q σ s⟩
      | cons u sl => simp at hs
    | cons v vs => simp at hv
  | i :: ix, vs, sl, σ, ρ, hv, hs, s, ok, far, dif, q => by
    cases vs with
    | nil => simp at hv
    | cons v vs =>
      cases sl with
      | nil => simp at hs
      | cons u sl =>
        obtain ⟨o1, o2⟩ := ok 0 u v rfl rfl
        have s2 := s.put (i := i) o1 o2 fun xs eu j ys _ ej => far 0 xs v (by rw [eu]; rfl) rfl j ys ej
        refine ⟨v, vs, rfl, puts ix vs sl _ _ (by simpa using hv) (by simpa using hs) s2 (fun k u' v' h1 h2 => ok (k + 1) u' v' h1 h2) (fun k xs w h1 h2 j ys ej => ?_) (fun k l xs ys v' w' ne h1 h2 h3 h4 => dif (k + 1) (l + 1) xs ys v' w' (fun z => ne (Nat.succ.inj z)) h1 h2 h3 h4) q⟩
        by_cases hij : i = j
        · subst hij
          have hi : i < ρ.length := Nat.lt_of_not_le fun z => by rw [List.getElem?_eq_none (by rw [List.length_set]; exact z)] at ej; cases ej
          rw [List.getElem?_set_self hi] at ej
          cases ej
          rw [List.getD_eq_getElem?_getD, List.getElem?_set_self (by rw [s.len]; exact hi)]
          exact fun z => dif 0 (k + 1) ys xs v w (by omega) rfl h1 rfl h2 (Option.some.inj z)
        · rw [List.getElem?_set_ne hij] at ej
          rw [List.getD_eq_getElem?_getD, List.getElem?_set_ne hij, ← List.getD_eq_getElem?_getD]
          exact far (k + 1) xs w h1 h2 j ys ej
def sUnpM (ix : List Nat) (r : MA) : MS := fun ρ π => (r ρ π).bind fun (sl, π1) => if sl.length = ix.length ∧ sl.all notP = true ∧ sl.length ≤ sizeLine then some (.nx (setAll ρ ix sl), π1) else none
theorem evs_unpM {n : Nat} (ix : List Nat) (hn : ix.length = n) (er : EvAr K tr r) : EvS K (tAsg (tTup tr) (gTup K n (gNames ix))) (sUnpM ix r) := fun ρ π o π' hf pa0 F0 H0 pa F H σ D iv q => by
  subst hn
  unfold sUnpM at hf
  cases e1 : r ρ π with
  | none => rw [e1] at hf; cases hf
  | some o1 =>
    obtain ⟨sl, π1⟩ := o1
    rw [e1] at hf
    simp only [Option.bind_some] at hf
    split at hf
    · rename_i hn
      cases hf
      refine er ρ π _ _ e1 pa H0 F H σ _ iv.e.wd iv.s fun vs F1 H1 p1 s1 => ?_
      have hl : vs.length = sl.length := by rw [← s1.len, List.length_map]
      refine ⟨by rw [hl]; exact hn.2.2, fun p np => ?_⟩
      have a1 : Post pa F1 H1 F1 (upd H1 p (.tup vs)) _ := p1.wd.addM (o := .tup vs) np
      have iv2 := (iv.step p1).step a1
      have s2 := (s1.entry (H2 := H0) fun a z => iv.e.fresh z).post p1.wd a1
      have at_ : ∀ k v, vs[k]? = some v → (vs.map some).getD k none = some v := fun k v h => by
        rw [List.getD_eq_getElem?_getD, List.getElem?_map, h]
        rfl
      refine ⟨p, vs, rfl, .inl (.inl upd_same), by rw [hl]; exact hn.1, puts ix vs sl σ ρ (by rw [hl]; exact hn.1) hn.1 iv2.s (fun k u v h1 h2 => ?_) (fun k xs v h1 h2 j ys ej => ?_) (fun k l xs ys v w ne h1 h2 h3 h4 => ?_) fun σ' s' => q pa F1 _ σ' ⟨iv2.e, s'⟩ p1.ff⟩
      · have z := s2.at_ k u h1
        rw [at_ k v h2] at z
        have hp := (List.all_eq_true.mp hn.2.1) _ (List.mem_of_getElem? h1)
        exact ⟨z, fun y => by rw [y] at hp; cases hp⟩
      · exact par_apart iv.e.wd iv.s s1 h1 h2 j ys ej
      · have z := s1.apart k l xs ys ne h1 h2
        rw [at_ k v h3, at_ l w h4] at z
        exact fun y => z (by rw [y])
    · cases hf
end
section
variable {K : PySem.W.Frag} {te : TE} {tt : TT} {ts tu : TS} {b : MT} {g h : MR} {l : ML}
def rVar (i : Nat) : MR := fun ρ π => match ρ[i]? with
  | some (.m xs) => some (xs, π)
  | _ => none
theorem evr_var {i : Nat} : EvR K (tRet (tVar i)) (rVar i) := fun ρ π ds π' hf pa0 F0 H0 pa F H σ D iv q => by
  unfold rVar at hf
  split at hf
  · rename_i xs ei
    cases hf
    obtain ⟨a, vs, ea, h0, h1, h2, h3, h4⟩ := iv.s.own ei
    exact ⟨.ref a, ea, q pa F H a vs iv.e h0 h1 h2 h3 h4⟩
  · cases hf
def rIf (b : MT) (g h : MR) : MR := fun ρ π => (b ρ π).bind fun (k, π1) => if k = true then g ρ π1 else h ρ π1
theorem evr_if (e : EvT K tt b) (e1 : EvR K ts g) (e2 : EvR K tu h) : EvR K (tIfS tt ts tu) (rIf b g h) := fun ρ π ds π' hf pa0 F0 H0 pa F H σ D iv q => by
  unfold rIf at hf
  cases eb : b ρ π with
  | none => rw [eb] at hf; cases hf
  | some r =>
    obtain ⟨k, π1⟩ := r
    rw [eb] at hf
    simp only [Option.bind_some] at hf
    refine e ρ π k π1 eb pa H0 F H σ _ iv.e.wd iv.s fun F' H' p => ?_
    cases k with
    | true =>
      rw [if_pos rfl] at hf ⊢
      exact e1 ρ π1 ds π' hf pa0 F0 H0 pa F' H' σ D (iv.step p) q
    | false =>
      rw [if_neg Bool.false_ne_true] at hf ⊢
      exact e2 ρ π1 ds π' hf pa0 F0 H0 pa F' H' σ D (iv.step p) q
/-- if t: return a new list; what follows gives one -/
theorem evr_ifRet (e : EvT K tt b) (e1 : EvR K ts g) (e2 : EvR K tu h) : EvR K (tSeq (tIfS tt ts tNext) tu) (rIf b g h) := fun ρ π ds π' hf pa0 F0 H0 pa F H σ D iv q => by
  unfold rIf at hf
  cases eb : b ρ π with
  | none => rw [eb] at hf; cases hf
  | some r =>
    obtain ⟨k, π1⟩ := r
    rw [eb] at hf
    simp only [Option.bind_some] at hf
    refine e ρ π k π1 eb pa H0 F H σ _ iv.e.wd iv.s fun F' H' p => ?_
    cases k with
    | true =>
      rw [if_pos rfl] at hf ⊢
      exact e1 ρ π1 ds π' hf pa0 F0 H0 pa F' H' σ { D with nx := tu D } (iv.step p) q
    | false =>
      rw [if_neg Bool.false_ne_true] at hf ⊢
      exact e2 ρ π1 ds π' hf pa0 F0 H0 pa F' H' σ D (iv.step p) q
end
section
variable {K : PySem.W.Frag}
def OutP (K : PySem.W.Frag) (pa0 : Option Addr) (F0 H0 : Hp) (pa : Option Addr) (F H : Hp) (σ : St) (vs : List Nat) (π' : Pt) (o : Out) (D : Ends) : Prop :=
  match o with
  | .nx ρ' => ∀ F' H' σ', InvS K pa0 F0 H0 pa F' H' π' σ' ρ' → Post pa F H F' H' π' → L2.wipe σ' vs = L2.wipe σ vs → D.nx σ' H'
  | .rt d => ∀ F' H' v, EndS pa0 F0 H0 pa F' H' π' → Rp K F' v d → Post pa F H F' H' π' → D.rt v H'
  | _ => False
def EvP (K : PySem.W.Frag) (ts : TS) (g : MS) (vs : List Nat) : Prop := ∀ ρ π o π', g ρ π = some (o, π') → ∀ pa0 F0 H0 pa F H σ D, InvS K pa0 F0 H0 pa F H π σ ρ → OutP K pa0 F0 H0 pa F H σ vs π' o D → ts D σ H
variable {te : TE} {tt : TT} {ts tu : TS} {b : MT} {f : MX} {g h : MS} {vs : List Nat} {i : Nat}
theorem evp_set (hi : i ∈ vs) (e : EvE K te f) : EvP K (tAsg te (gName i)) (sSet i f) vs := fun ρ π o π' hf pa0 F0 H0 pa F H σ D iv q => by
  unfold sSet at hf
  cases ef : f ρ π with
  | none => rw [ef] at hf; cases hf
  | some r =>
    obtain ⟨x, π1⟩ := r
    rw [ef] at hf
    cases hf
    refine e ρ π x _ ef pa H0 F H σ _ iv.e.wd iv.s fun v F1 H1 p1 r1 => ?_
    have iv1 := iv.step p1
    exact q F1 H1 _ ⟨iv1.e, iv1.s.setD r1⟩ p1 (wipe_set hi)
theorem evp_ret (e : EvE K te f) : EvP K (tRet te) (sRet f) vs := fun ρ π o π' hf pa0 F0 H0 pa F H σ D iv q => by
  unfold sRet at hf
  cases ef : f ρ π with
  | none => rw [ef] at hf; cases hf
  | some r =>
    obtain ⟨x, π1⟩ := r
    rw [ef] at hf
    cases hf
    exact e ρ π x _ ef pa H0 F H σ _ iv.e.wd iv.s fun v F' H' p r => q F' H' v (iv.e.step p) r p
theorem evp_nil : EvP K tNext sNil vs := fun ρ π o π' hf pa0 F0 H0 pa F H σ D iv q => by
  cases hf
  exact q F H σ iv (.refl iv.e.wd) rfl
theorem evp_if (e : EvT K tt b) (e1 : EvP K ts g vs) (e2 : EvP K tu h vs) : EvP K (tIfS tt ts tu) (sIf b g h) vs := fun ρ π o π' hf pa0 F0 H0 pa F H σ D iv q => by
  have later : ∀ {F' H' : Hp} {π1 : Pt}, Post pa F H F' H' π1 → OutP K pa0 F0 H0 pa F' H' σ vs π' o D := fun {F' H' π1} p => by
    cases o with
    | nx ρ' => exact fun F2 H2 σ2 iv2 p2 w => q F2 H2 σ2 iv2 (p.trans iv.e.wd p2) w
    | rt d => exact fun F2 H2 v e2 r p2 => q F2 H2 v e2 r (p.trans iv.e.wd p2)
    | bk ρ' => exact q.elim
    | ct ρ' => exact q.elim
  unfold sIf at hf
  cases eb : b ρ π with
  | none => rw [eb] at hf; cases hf
  | some r =>
    obtain ⟨k, π1⟩ := r
    rw [eb] at hf
    simp only [Option.bind_some] at hf
    refine e ρ π k π1 eb pa H0 F H σ _ iv.e.wd iv.s fun F' H' p => ?_
    cases k with
    | true =>
      rw [if_pos rfl] at hf ⊢
      exact e1 ρ π1 o π' hf pa0 F0 H0 pa F' H' σ D (iv.step p) (later p)
    | false =>
      rw [if_neg Bool.false_ne_true] at hf ⊢
      exact e2 ρ π1 o π' hf pa0 F0 H0 pa F' H' σ D (iv.step p) (later p)
end

def noM : Sl → Bool
  | .m _ => false
  | _ => true
def datas : List Sl → Option (List PyData)
  | [] => some []
  | .d x :: r => (datas r).map (x :: ·)
  | .m ys :: r => (datas r).map (.list ys :: ·)
  | _ :: _ => none
section
variable {K : PySem.W.Frag} {pa : Option Addr} {H0 F H F' H' : Hp} {π π' : Pt} {σ σ' : St} {ρ : Ev} {i : Nat} {sl : List Sl}
structure Pend (K : PySem.W.Frag) (pa : Option Addr) (H0 F H : Hp) (σ : St) (i : Nat) (sl : List Sl) : Prop where
  ex : ∃ a vs, σ[i]? = some (some (.ref a)) ∧ H0 a = none ∧ F a = none ∧ pa ≠ some a ∧ H a = some (.lst vs) ∧ StOk K pa H0 F H (vs.map some) sl ∧ ∀ (k : Nat) (ys : List PyData), sl[k]? = some (.m ys) → vs[k]? ≠ some (V.ref a)
theorem Pend.post (h : Pend K pa H0 F H σ i sl) (w : Wd pa F H π) (p : Post pa F H F' H' π') (e : σ'[i]? = σ[i]?) : Pend K pa H0 F' H' σ' i sl := by
  obtain ⟨a, vs, h1, h2, h3, h4, h5, h6, h7⟩ := h.ex
  refine ⟨a, vs, by rw [e]; exact h1, h2, ?_, h4, p.keep a _ h5 h4, h6.post w p, h7⟩
  cases y : F' a with
  | none => rfl
  | some o =>
    rcases p.new a o y with x | x
    · rw [h3] at x; cases x
    · rw [h5] at x; cases x
theorem lend : ∀ (vs : List V) (sl : List Sl) (ds : List PyData), vs.length = sl.length → datas sl = some ds → Wd pa F H π →
    (∀ (k : Nat) (u : Sl) (v : V), sl[k]? = some u → vs[k]? = some v → SlOk K pa H0 F H (some v) u) →
    (∀ (k l : Nat) (xs ys : List PyData) (v w : V), k ≠ l → sl[k]? = some (.m xs) → sl[l]? = some (.m ys) → vs[k]? = some v → vs[l]? = some w → v ≠ w) →
    ∃ F', Same F F' ∧ Wd pa F' H π ∧ RpA K F' vs ds ∧ ∀ c, F' c ≠ none → F c ≠ none ∨ ∃ (k : Nat) (ys : List PyData), sl[k]? = some (.m ys) ∧ vs[k]? = some (V.ref c)
  | [], [], ds, _, hd, w, _, _ => by
    cases hd
    exact ⟨F, Same.refl _, w, .nil, fun c h => .inl h⟩
  | [], _ :: _, ds, hl, _, _, _, _ => by simp at hl
  | _ :: _, [], ds, hl, _, _, _, _ => by simp at hl
  | v :: vs, u :: sl, ds, hl, hd, w, ok, dif => by
    have hl' : vs.length = sl.length := by simpa using hl
    have rest : ∀ es, datas sl = some es → ∃ F', Same F F' ∧ Wd pa F' H π ∧ RpA K F' vs es ∧ ∀ c, F' c ≠ none → F c ≠ none ∨ ∃ (k : Nat) (ys : List PyData), sl[k]? = some (.m ys) ∧ vs[k]? = some (V.ref c) := fun es he =>
      lend vs sl es hl' he w (fun k u' v' h1 h2 => ok (k + 1) u' v' h1 h2) fun k l xs ys v' w' ne h1 h2 h3 h4 => dif (k + 1) (l + 1) xs ys v' w' (fun z => ne (Nat.succ.inj z)) h1 h2 h3 h4
    have o := ok 0 u v rfl rfl
    cases u with
    | e => cases hd
    | p => cases hd
    | d x =>
      have hd : (datas sl).map (x :: ·) = some ds := hd
      cases he : datas sl with
      | none => rw [he] at hd; cases hd
      | some es =>
        rw [he] at hd
        cases hd
        obtain ⟨F', s1, w1, r1, n1⟩ := rest es he
        obtain ⟨v', ev, r⟩ := o
        cases ev
        refine ⟨F', s1, w1, .cons (r.mono s1) r1, fun c hc => ?_⟩
        rcases n1 c hc with z | ⟨k, ys, z1, z2⟩
        · exact .inl z
        · exact .inr ⟨k + 1, ys, z1, z2⟩
    | m ys =>
      have hd : (datas sl).map (.list ys :: ·) = some ds := hd
      cases he : datas sl with
      | none => rw [he] at hd; cases hd
      | some es =>
        rw [he] at hd
        cases hd
        obtain ⟨F', s1, w1, r1, n1⟩ := rest es he
        obtain ⟨b, us, ev, q0, q1, q2, q3, q4⟩ := o
        cases ev
        have hb : F' b = none := by
          cases y : F' b with
          | none => rfl
          | some o =>
            rcases n1 b (by rw [y]; simp) with z | ⟨k, zs, z1, z2⟩
            · exact absurd q1 z
            · exact absurd rfl (dif 0 (k + 1) ys zs _ _ (by omega) rfl z1 rfl z2)
        obtain ⟨s2, w2⟩ := w1.settle hb q2 q3
        refine ⟨upd F' b (.lst us), s1.trans s2, w2, .cons (.lst (.inl (.inl upd_same)) ((q4.mono s1).mono s2)) (r1.mono s2), fun c hc => ?_⟩
        by_cases hcb : c = b
        · subst hcb
          exact .inr ⟨0, ys, rfl, rfl⟩
        · rw [upd_ne hcb] at hc
          rcases n1 c hc with z | ⟨k, zs, z1, z2⟩
          · exact .inl z
          · exact .inr ⟨k + 1, zs, z1, z2⟩
theorem getD_some {v : V} {vs : List V} {k : Nat} (h : vs[k]? = some v) : (vs.map some).getD k none = some v := by
  rw [List.getD_eq_getElem?_getD, List.getElem?_map, h]
  rfl
/-- the whole pending list as settled data, for a while -/
theorem Pend.lend (h : Pend K pa H0 F H σ i sl) {ds : List PyData} (w : Wd pa F H π) (s : StOk K pa H0 F H σ ρ) (nm : ρ.all noM = true) (hd : datas sl = some ds) :
    ∃ F', Same F F' ∧ Wd pa F' H π ∧ StOk K pa H0 F' H σ (ρ.set i (.d (.list ds))) := by
  obtain ⟨a, vs, h1, h2, h3, h4, h5, h6, h7⟩ := h.ex
  have hl : vs.length = sl.length := by rw [← h6.len, List.length_map]
  obtain ⟨F', s1, w1, r1, n1⟩ := DL.lend vs sl ds hl hd w (fun k u v e1 e2 => by
    have z := h6.at_ k u e1
    rw [getD_some e2] at z
    exact z) fun k l xs ys v w' ne e1 e2 e3 e4 z => by
      have y := h6.apart k l xs ys ne e1 e2
      rw [getD_some e3, getD_some e4] at y
      exact y (by rw [z])
  have ha : F' a = none := by
    cases y : F' a with
    | none => rfl
    | some o =>
      rcases n1 a (by rw [y]; simp) with z | ⟨k, ys, z1, z2⟩
      · exact absurd h3 z
      · exact absurd z2 (h7 k ys z1)
  obtain ⟨s2, w2⟩ := w1.settle ha h4 h5
  refine ⟨upd F' a (.lst vs), s1.trans s2, w2, ?_⟩
  have s3 : StOk K pa H0 (upd F' a (.lst vs)) H σ ρ := ⟨s.len, (fun j u e => by
    have z := s.at_ j u e
    cases u with
    | e => trivial
    | d x =>
      obtain ⟨v, e1, r⟩ := z
      exact ⟨v, e1, (r.mono s1).mono s2⟩
    | p => exact z
    | m xs =>
      have q := (List.all_eq_true.mp nm) _ (List.mem_of_getElem? e)
      cases q), s.apart⟩
  have s4 := s3.setD (i := i) (v := .ref a) (x := .list ds) (.lst (.inl (.inl upd_same)) (r1.mono s2))
  have e : σ.set i (some (.ref a)) = σ := by
    apply List.ext_getElem?
    intro j
    by_cases hij : i = j
    · subst hij
      have hi : i < σ.length := (List.getElem?_eq_some_iff.mp h1).1
      rw [List.getElem?_set_self hi, h1]
    · rw [List.getElem?_set_ne hij]
  rw [e] at s4
  exact s4
theorem wipe_get : ∀ (vs : List Nat) (σ : St) (i : Nat), i ∉ vs → (L2.wipe σ vs)[i]? = σ[i]?
  | [], σ, i, _ => rfl
  | v :: vs, σ, i, h => by
    have h1 : v ≠ i := fun z => h (by rw [z]; exact List.mem_cons_self)
    have h2 : i ∉ vs := fun z => h (List.mem_cons_of_mem _ z)
    show ((L2.wipe σ vs).set v none)[i]? = _
    rw [List.getElem?_set_ne h1, wipe_get vs σ i h2]
end
section
variable {K : PySem.W.Frag}
abbrev MW := List Sl → Ev → Pt → Option (Out × Pt)
def EvW (K : PySem.W.Frag) (i : Nat) (ts : TS) (g : MW) : Prop := ∀ sl ρ π o π', g sl ρ π = some (o, π') → ∀ pa0 F0 H0 pa F H σ D, InvS K pa0 F0 H0 pa F H π σ ρ → Pend K pa H0 F H σ i sl → ρ.all noM = true → OutK K pa0 F0 H0 F π' o D → ts D σ H
variable {te : TE} {tr : TA} {r : MA} {tt : TT} {ts tu : TS} {b : MT} {f : MX} {g : MS} {h : MW} {vs : List Nat} {i : Nat}
def wNew (i : Nat) (r : MA) (h : MW) : MS := fun ρ π => (r ρ π).bind fun (sl, π1) => if ρ.all noM = true ∧ sl.all notP = true ∧ sl.length ≤ sizeLine ∧ i < ρ.length then h sl (ρ.set i .e) π1 else none
theorem all_set {ρ : Ev} (h : ρ.all noM = true) (i : Nat) : (ρ.set i .e).all noM = true := by
  rw [List.all_eq_true] at h ⊢
  intro x hx
  rcases List.mem_or_eq_of_mem_set hx with z | z
  · exact h x z
  · rw [z]; rfl
theorem evw_new (er : EvAr K tr r) (e : EvW K i tu h) : EvS K (tSeq (tAsg (tLst tr) (gName i)) tu) (wNew i r h) := fun ρ π o π' hf pa0 F0 H0 pa F H σ D iv q => by
  unfold wNew at hf
  cases e1 : r ρ π with
  | none => rw [e1] at hf; cases hf
  | some o1 =>
    obtain ⟨sl, π1⟩ := o1
    rw [e1] at hf
    simp only [Option.bind_some] at hf
    split at hf
    · rename_i hn
      refine er ρ π _ _ e1 pa H0 F H σ _ iv.e.wd iv.s fun vs F1 H1 p1 s1 => ?_
      have hl : vs.length = sl.length := by rw [← s1.len, List.length_map]
      refine ⟨by rw [hl]; exact hn.2.2.1, fun p np => ?_⟩
      have a1 : Post pa F1 H1 F1 (upd H1 p (.lst vs)) _ := p1.wd.addM (o := .lst vs) np
      have iv2 := (iv.step p1).step a1
      have s2 := (s1.entry (H2 := H0) fun a z => iv.e.fresh z).post p1.wd a1
      refine e sl _ π1 o π' hf pa0 F0 H0 pa F1 _ _ D ⟨iv2.e, iv2.s.setE⟩ ⟨p, vs, ?_, iv.e.fresh (p1.fresh np), p1.wd.free np, p1.wd.pa_ne np, upd_same, s2, fun k ys ek z => ?_⟩ (all_set hn.1 i) (q.later p1.ff)
      · rw [List.getElem?_set_self (by rw [iv.s.len]; exact hn.2.2.2)]
      · have y := s1.at_ k _ ek
        rw [getD_some z] at y
        obtain ⟨b, us, eb, _, _, _, hb, _⟩ := y
        cases eb
        rw [np] at hb
        cases hb
    · cases hf
def wMid (g : MS) (h : MW) : MW := fun sl ρ π => (g ρ π).bind fun (o, π1) => match o with
  | .nx ρ1 => if ρ1.all noM = true then h sl ρ1 π1 else none
  | .rt d => some (.rt d, π1)
  | _ => none
theorem evw_mid (hi : i ∉ vs) (e1 : EvP K ts g vs) (e2 : EvW K i tu h) : EvW K i (tSeq ts tu) (wMid g h) := fun sl ρ π o π' hf pa0 F0 H0 pa F H σ D iv pd nm q => by
  unfold wMid at hf
  cases eg : g ρ π with
  | none => rw [eg] at hf; cases hf
  | some r =>
    obtain ⟨o1, π1⟩ := r
    rw [eg] at hf
    simp only [Option.bind_some] at hf
    refine e1 ρ π o1 π1 eg pa0 F0 H0 pa F H σ { D with nx := tu D } iv ?_
    cases o1 with
    | nx ρ1 =>
      simp only at hf
      split at hf
      · rename_i hn
        exact fun F' H' σ' iv' p w => e2 sl ρ1 π1 o π' hf pa0 F0 H0 pa F' H' σ' D iv' (pd.post iv.e.wd p (by rw [← wipe_get vs σ' i hi, w, wipe_get vs σ i hi])) hn (q.later p.ff)
      · cases hf
    | rt d => cases hf; exact fun F' H' v e' r p => q pa F' H' v e' r p.ff
    | bk ρ1 => cases hf
    | ct ρ1 => cases hf
def wIf (i : Nat) (b : MT) (f : MX) (h : MW) : MW := fun sl ρ π => (datas sl).bind fun ds => (b (ρ.set i (.d (.list ds))) π).bind fun (k, π1) => if k = true then (f ρ π1).map fun (x, π2) => (.rt x, π2) else h sl ρ π1
theorem evw_if (e : EvT K tt b) (ef : EvE K te f) (e2 : EvW K i tu h) : EvW K i (tSeq (tIfS tt (tRet te) tNext) tu) (wIf i b f h) := fun sl ρ π o π' hf pa0 F0 H0 pa F H σ D iv pd nm q => by
  unfold wIf at hf
  cases hd : datas sl with
  | none => rw [hd] at hf; cases hf
  | some ds =>
    rw [hd] at hf
    simp only [Option.bind_some] at hf
    cases eb : b (ρ.set i (.d (.list ds))) π with
    | none => rw [eb] at hf; cases hf
    | some r =>
      obtain ⟨k, π1⟩ := r
      rw [eb] at hf
      simp only [Option.bind_some] at hf
      obtain ⟨Fp, s1, w1, st⟩ := pd.lend iv.e.wd iv.s nm hd
      refine e _ π k π1 eb pa H0 Fp H σ _ w1 st fun F' H' p => ?_
      have P : Post pa F H F H' π1 := ⟨Same.refl _, ⟨s1.trans (p.ff.trans p.wd.same), p.wd.sys, fun z hz => ⟨(iv.e.wd.pot z hz).1, (p.wd.pot z hz).2⟩⟩, p.keep, fun c o hc => .inl hc⟩
      have iv2 := iv.step P
      cases k with
      | true =>
        rw [if_pos rfl] at hf ⊢
        cases e3 : f ρ π1 with
        | none => rw [e3] at hf; cases hf
        | some r =>
          obtain ⟨x, π2⟩ := r
          rw [e3] at hf
          cases hf
          exact ef ρ π1 x _ e3 pa H0 F H' σ _ iv2.e.wd iv2.s fun v F2 H2 p2 r2 => q pa F2 H2 v (iv2.e.step p2) r2 p2.ff
      | false =>
        rw [if_neg Bool.false_ne_true] at hf ⊢
        exact e2 sl ρ π1 o π' hf pa0 F0 H0 pa F H' σ D iv2 (pd.post iv.e.wd P rfl) nm q
def wApp (k : Int) (f : MX) (h : MW) : MW := fun sl ρ π => (f ρ π).bind fun (x, π1) => (ixN sl.length k).bind fun j => match sl[j]? with
  | some (.m ys) => if ys.length < sizeLine then h (sl.set j (.m (ys ++ [x]))) ρ π1 else none
  | _ => none
theorem evw_app {k : Int} (e : EvE K te f) (e2 : EvW K i tu h) : EvW K i (tSeq (tDrop (tBM K "list" rAppend (tOp (rIx K) (tVar i) (tC (.int k))) (tCons te tNil))) tu) (wApp k f h) := fun sl ρ π o π' hf pa0 F0 H0 pa F H σ D iv pd nm q => by
  unfold wApp at hf
  cases ef : f ρ π with
  | none => rw [ef] at hf; cases hf
  | some r =>
    obtain ⟨x, π1⟩ := r
    rw [ef] at hf
    simp only [Option.bind_some] at hf
    cases ej : ixN sl.length k with
    | none => rw [ej] at hf; cases hf
    | some j =>
      rw [ej] at hf
      simp only [Option.bind_some] at hf
      split at hf
      · rename_i ys es
        split at hf
        · rename_i hz
          obtain ⟨a, vs, h1, h2, h3, h4, h5, h6, h7⟩ := pd.ex
          have hl : vs.length = sl.length := by rw [← h6.len, List.length_map]
          obtain ⟨b, us, eb, b0, b1, b2, b3, b4⟩ := h6.own es
          have evj : vs[j]? = some (.ref b) := by
            rw [List.getElem?_map] at eb
            cases y : vs[j]? with
            | none => rw [y] at eb; cases eb
            | some w => rw [y] at eb; cases eb; rfl
          have eat : L2.atI vs k = some (.ref b) := by
            unfold L2.atI
            rw [hl, ej]
            exact evj
          refine ⟨.ref a, h1, .inl ⟨a, vs, k, .ref b, rfl, rfl, .inl (.inl h5), eat, .inl ⟨rfl, us, .inl (.inl b3)⟩, e ρ π x _ ef pa H0 F H σ _ iv.e.wd iv.s fun v F' H' p rv => ?_⟩⟩
          have iv' := iv.step p
          have pd' := pd.post iv.e.wd p (σ' := σ) rfl
          obtain ⟨a', vs', h1', h2', h3', h4', h5', h6', h7'⟩ := pd'.ex
          rw [h1] at h1'
          cases h1'
          have e5 := p.keep a _ h5 h4
          rw [h5'] at e5
          cases e5
          obtain ⟨b', us', eb', b0', b1', b2', b3', b4'⟩ := h6'.own es
          rw [eb] at eb'
          cases eb'
          have nab : a ≠ b := fun z => h7 j ys es (by rw [z]; exact evj)
          refine ⟨b, us', v, rfl, rfl, b3', by rw [b4'.length]; exact hz, ?_⟩
          have wr := h6'.writeM es eb (vs' := us' ++ [v]) (xs' := ys ++ [x]) (b4'.append (.cons rv .nil))
          refine e2 (sl.set j (.m (ys ++ [x]))) ρ π1 o π' hf pa0 F0 H0 pa F' _ σ D ⟨⟨iv'.e.ff, iv'.e.new, fun c oc hc n => ?_, ⟨same_upd2 iv'.e.wd.same b1', ?_, fun c z => ?_⟩, iv'.e.pt⟩, iv'.s.len, fun j' u eu => ?_, iv'.s.apart⟩ ⟨a, vs, h1, h2', h3', h4', by rw [upd_ne nab]; exact h5', wr, fun k' zs ek' z => ?_⟩ nm (q.later p.ff)
          · have ne : c ≠ b := ne_of_none hc b0'
            rw [upd_ne ne]
            exact iv'.e.keep c oc hc n
          · obtain ⟨u, q1, q2⟩ := iv'.e.wd.sys
            have ne : b ≠ sysModules := iv'.e.wd.sys_ne b3' fun ⟨_, z⟩ => by cases z
            exact ⟨u, by rw [upd_ne (Ne.symm ne)]; exact q1, q2⟩
          · obtain ⟨q1, q2⟩ := iv'.e.wd.pot c z
            have ne : c ≠ b := fun y => b2' (by rw [← y]; exact z)
            exact ⟨q1, by rw [upd_ne ne]; exact q2⟩
          · have z := iv'.s.at_ j' u eu
            cases u with
            | e => trivial
            | d y => exact z
            | p => exact z
            | m zs =>
              have qn := (List.all_eq_true.mp nm) _ (List.mem_of_getElem? eu)
              cases qn
          · by_cases hjk : j = k'
            · subst hjk
              rw [evj] at z
              cases z
              exact nab rfl
            · rw [List.getElem?_set_ne hjk] at ek'
              exact h7' k' zs ek' z
        · cases hf
      · cases hf
theorem evw_end (e : EvS K tu g) : EvW K i tu (fun _ => g) := fun sl ρ π o π' hf pa0 F0 H0 pa F H σ D iv pd nm q => e ρ π o π' hf pa0 F0 H0 pa F H σ D iv q
end

def mL (m : MFN) : MF := fun sl π => (m sl π).map fun (ds, π') => (.list ds, π')
theorem SPd.toN {K : PySem.W.Frag} {n : Nat} {m : MFN} {vs : List V} {H : Hp} {Q : VK} (h : SPd K n (mL m) vs H Q) : SPn K n m vs H Q := by
  obtain ⟨pa, F, π, sl, d, π', h1, h2, h3, h4, q⟩ := h
  unfold mL at h4
  cases e : m sl π with
  | none => rw [e] at h4; cases h4
  | some r =>
    obtain ⟨ds, π1⟩ := r
    rw [e] at h4
    cases h4
    refine ⟨pa, F, π, sl, ds, _, h1, h2, h3, e, fun a us F' H' p ha hF hp hH r => ?_⟩
    obtain ⟨s1, w1⟩ := p.wd.settle hF hp hH
    refine q (.ref a) (upd F' a (.lst us)) H' ⟨p.ff.trans s1, w1, p.keep, fun c o hc => ?_⟩ (.lst (.inl (.inl upd_same)) (r.mono s1))
    by_cases hca : c = a
    · subst hca; exact .inr ha
    · rw [upd_ne hca] at hc; exact p.new c o hc
theorem FnS.weak {P : Program} {w : World} {K : PySem.W.Frag} {mg : Str → Option Value} {base : Heap} {k : Nat} {f : Addr} {fd : FuncData} {ps : List Str} {sp sp' : List V → Hp → VK → Prop} (h : ∀ vs H Q, sp' vs H Q → sp vs H Q) (F : FnS P w K mg base k f fd ps sp) : FnS P w K mg base k f fd ps sp' :=
  ⟨fun vs H Q z => F.len vs H Q (h vs H Q z), fun A outer s H args us vs Q hr hg e0 hb r z => F.run A outer s H args us vs Q hr hg e0 hb r (h vs H Q z)⟩
theorem Fn.toD {P : Program} {w : World} {K : PySem.W.Frag} {mg : Str → Option Value} {base : Heap} {lev n : Nat} {x : Str} {ps : List Str} {m : MFN} (F : Fn P w K mg base lev x ps (SPn K n m)) : Fn P w K mg base lev x ps (SPd K n (mL m)) :=
  let ⟨⟨fd, a, b, c, d⟩, g, p⟩ := F
  ⟨⟨fd, a.weak fun _ _ _ z => z.toN, b, c, d⟩, g, p⟩

def iAny (K : PySem.W.Frag) (tl : TE) : TI := fun σ H R => iList K tl σ H R ∨ iTup K tl σ H R
theorem pi_any {X : Cx} {tg l : Expr} {tl : TE} (hl : PE X l tl) : PI X tg l (iAny X.K tl) :=
  ⟨fun pins s σ H R I h => h.elim (fun z => (pi_list hl).run pins s σ H R I z) fun z => (pi_tup hl).run pins s σ H R I z⟩
def iA (f : MX) : ML := fun ρ π => match f ρ π with
  | some (.list ds, π') => some (ds, π')
  | some (.tuple ds, π') => some (ds, π')
  | _ => none
theorem evi_any {K : PySem.W.Frag} {te : TE} {f : MX} (e : EvE K te f) : EvI K (iAny K te) (iA f) := fun ρ π ds π' hf pa H0 F H σ R w s q => by
  unfold iA at hf
  split at hf
  · rename_i ef
    cases hf
    exact .inl (evi_list e ρ π ds π' (by unfold iL; rw [ef]; rfl) pa H0 F H σ R w s q)
  · rename_i ef
    cases hf
    exact .inr (evi_tup e ρ π ds π' (by unfold iT; rw [ef]; rfl) pa H0 F H σ R w s q)
  · cases hf
end DL

set_option maxHeartbeats 2000000
namespace DL
open PySem PySem.Spec PyProof.Rows L2
set_option autoImplicit false
section
variable {K : PySem.W.Frag} {te tk : TE} {ts tu : TS} {f : MX} {g : MS} {h : MR} {l : ML}
def rFrz (i : Nat) (g : MR) : MR := fun ρ π => match ρ[i]? with
  | some (.m xs) => g (ρ.set i (.d (.list xs))) π
  | _ => none
theorem evr_frz {i : Nat} (e : EvR K ts h) : EvR K ts (rFrz i h) := fun ρ π ds π' hf pa0 F0 H0 pa F H σ D iv q => by
  unfold rFrz at hf
  split at hf
  · rename_i xs ei
    obtain ⟨a, vs, ea, h0, h1, h2, h3, h4⟩ := iv.s.own ei
    obtain ⟨s1, w1⟩ := iv.e.wd.settle h1 h2 h3
    refine e _ π ds π' hf pa0 F0 H0 pa (upd F a (.lst vs)) H σ D ⟨⟨iv.e.ff.trans s1, fun c u hc => ?_, iv.e.keep, w1, iv.e.pt⟩, iv.s.settleM ei ea h3 h4 h1⟩ q
    by_cases hca : c = a
    · subst hca; exact .inr h0
    · rw [upd_ne hca] at hc; exact iv.e.new c u hc
  · cases hf
/-- an own list times a number -/
def fRepM (i : Nat) (f : MX) : ML := fun ρ π => match ρ[i]? with
  | some (.m xs) => (f ρ π).bind fun (y, π2) => match y with
    | .int k => if okR k = true ∧ xs.length * k.toNat ≤ sizeLine then some ((List.replicate k.toNat xs).flatten, π2) else none
    | _ => none
  | _ => none
theorem ev_repM {i : Nat} (e2 : EvX K tk f) : EvN K (tOp rRep (tVar i) tk) (fRepM i f) := fun ρ π ds π' hf pa H0 F H σ Q w s q => by
  unfold fRepM at hf
  split at hf
  · rename_i xs ei
    cases e3 : f ρ π with
    | none => rw [e3] at hf; cases hf
    | some o3 =>
      obtain ⟨y, π2⟩ := o3
      rw [e3] at hf
      simp only [Option.bind_some] at hf
      split at hf
      · rename_i k
        split at hf
        · rename_i hk
          cases hf
          obtain ⟨a, vs, ea, h0, h1, h2, h3, h4⟩ := s.own ei
          refine ⟨.ref a, ea, e2 ρ π _ _ e3 pa H0 F H σ _ w s fun u F2 H2 p2 r2 => ?_⟩
          have hh := p2.keep a _ h3 h2
          have e62 : (2 : Int) ^ 62 = 4611686018427387904 := by decide
          have e63 : (2 : Int) ^ 63 = 9223372036854775808 := by decide
          have hk1 := (okR_iff hk.1).1
          have hk2 := (okR_iff hk.1).2
          rw [e62] at hk1 hk2
          refine ⟨a, k, vs, rfl, r2.int_inv, hh, by rw [e63]; omega, by rw [e63]; omega, by rw [h4.length]; exact hk.2, fun p np => ?_⟩
          have a1 := p2.wd.addM (o := .lst (List.replicate k.toNat vs).flatten) np
          refine q p _ F2 _ (p2.trans w a1) (p2.fresh np) (p2.wd.free np) (p2.wd.pa_ne np) upd_same ?_
          exact (h4.mono p2.ff).rep _
        · cases hf
      · cases hf
  · cases hf
/-- str of a whole number -/
def gStr : PyData → Option PyData
  | .int i => if i.natAbs.log2 < 1920 then some (.str (toString i)) else none
  | _ => none
theorem sim_str : SimC1 K (fun xs H Q => ∃ i, xs = [.int i] ∧ i.natAbs.log2 < 1920 ∧ Q (.str (toString i)) H) gStr := by
  intro pa F H π x dx d Q w rx e q
  unfold gStr at e
  split at e
  · rename_i i
    split at e
    · rename_i hi
      cases e
      exact ⟨i, by rw [rx.int_inv], hi, q _ F H (.refl w) (.str _)⟩
    · cases e
  · cases e
/-- name.append(other.pop(f)) -/
def sAppPop (i j : Nat) (f : MX) : MS := fun ρ π => (f ρ π).bind fun (x, π1) => match ρ[i]?, ρ[j]?, x with
  | some (.m xs), some (.m ys), .int k => if i ≠ j ∧ xs.length < sizeLine ∧ ys.length ≤ sizeLine then (ixN ys.length k).bind fun n => (ys[n]?).map fun y => (.nx ((ρ.set j (.m (ys.eraseIdx n))).set i (.m (xs ++ [y]))), π1) else none
  | _, _, _ => none
theorem _root_.DL.RpA.eraseIdx {F : Hp} : ∀ {vs : List V} {ds : List PyData} (n : Nat), RpA K F vs ds → RpA K F (vs.eraseIdx n) (ds.eraseIdx n)
  | _, _, _, .nil => .nil
  | _, _, 0, .cons r t => t
  | _, _, n + 1, .cons r t => .cons r (RpA.eraseIdx n t)
theorem evs_appPop {i j : Nat} (e : EvE K te f) : EvS K (tDrop (tBM K "list" rAppend (tVar i) (tCons (tBM K "list" rPopAt (tVar j) (tCons te tNil)) tNil))) (sAppPop i j f) := fun ρ π o π' hf pa0 F0 H0 pa F H σ D iv q => by
  unfold sAppPop at hf
  cases ef : f ρ π with
  | none => rw [ef] at hf; cases hf
  | some r =>
    obtain ⟨x, π1⟩ := r
    rw [ef] at hf
    simp only [Option.bind_some] at hf
    split at hf
    · rename_i xs ys k ei ej
      split at hf
      · rename_i hz
        cases en : ixN ys.length k with
        | none => rw [en] at hf; cases hf
        | some n =>
          rw [en] at hf
          simp only [Option.bind_some] at hf
          cases ey : ys[n]? with
          | none => rw [ey] at hf; cases hf
          | some y =>
            rw [ey] at hf
            cases hf
            obtain ⟨a, vs, ea, h0, h1, h2, h3, h4⟩ := iv.s.own ei
            obtain ⟨b, us, eb, g0, g1, g2, g3, g4⟩ := iv.s.own ej
            refine ⟨.ref a, ea, .inl ⟨rfl, vs, .inl (.inl h3)⟩, .ref b, eb, .inl ⟨rfl, us, .inl (.inl g3)⟩, e ρ π _ _ ef pa H0 F H σ _ iv.e.wd iv.s fun v F' H' p r => ?_⟩
            have iv' := iv.step p
            obtain ⟨a', vs', ea', h0', h1', h2', h3', h4'⟩ := iv'.s.own ei
            rw [ea] at ea'
            cases ea'
            obtain ⟨b', us', eb', g0', g1', g2', g3', g4'⟩ := iv'.s.own ej
            rw [eb] at eb'
            cases eb'
            obtain ⟨w, hw, rw_⟩ := g4'.get ey
            obtain ⟨q1, q2, q3, q4⟩ := ixN_seq en
            have e63 : (2 : Int) ^ 63 = 9223372036854775808 := by decide
            have hy := hz.2.2
            rw [sizeLine_eq] at hy
            refine ⟨b, us', k, n, w, rfl, by rw [r.int_inv], g3', by rw [e63]; omega, by rw [e63]; omega, by rw [g4'.length]; exact q1, hw, ?_⟩
            have st1 := own_write iv' ej eb g0' g1' g2' g3' (g4'.eraseIdx n)
            have ei1 : (ρ.set j (.m (ys.eraseIdx n)))[i]? = some (.m xs) := by rw [List.getElem?_set_ne (Ne.symm hz.1)]; exact ei
            obtain ⟨a2, vs2, ea2, k0, k1, k2, k3, k4⟩ := st1.s.own ei1
            rw [ea] at ea2
            cases ea2
            exact ⟨a, vs2, w, rfl, rfl, k3, by rw [k4.length]; exact hz.2.1, q pa F' _ σ (own_write st1 ei1 ea k0 k1 k2 k3 (k4.append (.cons rw_ .nil))) p.ff⟩
      · cases hf
    · cases hf
/-- name.insert(k, f) -/
def sIns (i : Nat) (k : Int) (f : MX) : MS := fun ρ π => (f ρ π).bind fun (x, π1) => match ρ[i]? with
  | some (.m xs) => if xs.length < sizeLine ∧ 0 ≤ k ∧ k < 2 ^ 62 then some (.nx (ρ.set i (.m (xs.take k.toNat ++ [x] ++ xs.drop k.toNat))), π1) else none
  | _ => none
/-- one reading or the other -/
def tAlt (t u : TE) : TE := fun σ H Q => t σ H Q ∨ u σ H Q
theorem pe_alt {X : Cx} {e : Expr} {t u : TE} (a : PE X e t) (b : PE X e u) : PE X e (tAlt t u) :=
  ⟨fun pins s σ H Q I h => h.elim (fun z => a.run pins s σ H Q I z) fun z => b.run pins s σ H Q I z⟩
def fAlt (f g : MX) : MX := fun ρ π => match f ρ π with
  | some r => some r
  | none => g ρ π
theorem ev_alt {t u : TE} {f g : MX} (a : EvE K t f) (b : EvE K u g) : EvE K (tAlt t u) (fAlt f g) := fun ρ π d π' hf pa H0 F H σ Q w s q => by
  unfold fAlt at hf
  split at hf
  · rename_i r ef
    cases hf
    exact .inl (a ρ π d π' ef pa H0 F H σ Q w s q)
  · exact .inr (b ρ π d π' hf pa H0 F H σ Q w s q)
theorem fAlt_l {f g : MX} {ρ : Ev} {π : Pt} {r : PyData × Pt} (h : f ρ π = some r) : fAlt f g ρ π = some r := by unfold fAlt; rw [h]
theorem fAlt_r {f g : MX} {ρ : Ev} {π : Pt} (h : f ρ π = none) : fAlt f g ρ π = g ρ π := by unfold fAlt; rw [h]
/-- a constant tuple -/
theorem ev_ctup {a : Addr} {vs : List V} {ds : List PyData} (h : ∀ F : Hp, SqT K F a vs) (r : ∀ F : Hp, RpA K F vs ds) : EvE K (tC (.ref a)) (fC (.tuple ds)) := fun ρ π d π' hf pa H0 F H σ Q w s q => by
  cases hf; exact q (.ref a) F H (.refl w) (.tup (h F) (r F))
end
theorem pe_gref {X : Cx} {x : Str} {a : Addr} {pos : Pos} (hg : Gl X x) (hm : X.mg x = some (.ref a)) (hd : (x == ("__debug__" : Str)) = false := by decide) : PE X (.Name x pos) (tC (.ref a)) := pe_glob hg hm rfl hd
end DL

set_option maxHeartbeats 0
namespace Pg
open PySem PySem.Spec PyProof.Rows L2 DL
set_option autoImplicit false
abbrev bYes : MT := fun _ π => some (true, π)
def g_is_tuple : MS := (sRet (fAndV (fIsi "tuple" (fVx 0)) (fB (gEq false) (fU gLen (fVx 0)) (fVx 1))))
def m_is_tuple : MF := mOf 2 g_is_tuple
def g_is_integer : MS := (sRet (fAndV (fIsi "int" (fVx 0)) (fNotV (fIsi "bool" (fVx 0)))))
def m_is_integer : MF := mOf 1 g_is_integer
def g_is_within : MS := (sRet (fAndV (fCl 1 m_is_integer (aD (fV 0) aNil)) (fCh gLe gLe (fVx 1) (fVx 0) (fVx 2))))
def m_is_within : MF := mOf 3 g_is_within
def g_is_standing_of : MS := (sRet (fAndV (fCl 2 m_is_tuple (aD (fV 0) (aD (fV 1) aNil))) (fU gAll (fL (fLc (iA (fV 0)) [2] (tName 2) bYes (fCl 3 m_is_within (aD (fV 2) (aD (fC (.int 0)) (aD (fC (.int 9)) aNil)))))))))
def m_is_standing_of : MF := mOf 3 g_is_standing_of
def g_are_rising : MS := (sRet (fU gAll (fL (fLc (iZ (fV 0) (fSlA (fVx 0) (oSome (fC (.int 1))) oNone)) [1, 2] (tTupG (tsCons (tName 1) (tsCons (tName 2) tsNil)) 2) bYes (fB gLt (fVx 1) (fVx 2))))))
def m_are_rising : MF := mOf 3 g_are_rising
def g_are_places : MS := (sRet (fAndV (fIsi "tuple" (fVx 0)) (fAndV (fU gAll (fL (fLc (iA (fV 0)) [2] (tName 2) bYes (fCl 3 m_is_within (aD (fV 2) (aD (fC (.int 0)) (aD (fB gSubI (fVx 1) (fC (.int 1))) aNil))))))) (fCl 1 m_are_rising (aD (fV 0) aNil)))))
def m_are_places : MF := mOf 3 g_are_places
def g_is_name : MS := (sSeq (sIf (fOrT (fNotT (fTv (fIsi "str" (fVx 0)))) (fOrT (fNotT (fTv (fCh gLe gLe (fC (.int 1)) (fU gLen (fVx 0)) (fC (.int 12))))) (fTv (fB (gIn true) (fB gIx (fVx 0) (fC (.int 0))) (fC (.str "abcdefghijklmnopqrstuvwxyz")))))) (sRet (fC (.bool false))) sNil) (sRet (fU gAll (fL (fLc (iS (fVx 0)) [1] (tName 1) bYes (fB (gIn false) (fVx 1) (fC (.str "abcdefghijklmnopqrstuvwxyz0123456789_"))))))))
def m_is_name : MF := mOf 2 g_is_name
def g_is_task_of : MS := (sSeq (sIf (fOrT (fNotT (fTv (fCl 2 m_is_tuple (aD (fV 0) (aD (fC (.int 3)) aNil))))) (fOrT (fNotT (fTv (fIsi "str" (fB gIx (fVx 0) (fC (.int 0)))))) (fNotT (fOrT (fTv (fB (gEq false) (fB gIx (fVx 0) (fC (.int 0))) (fC (.str "")))) (fTv (fCl 1 m_is_name (aD (fB gIx (fVx 0) (fC (.int 0))) aNil))))))) (sRet (fC (.bool false))) sNil) (sRet (fAndV (fCl 2 m_are_places (aD (fB gIx (fVx 0) (fC (.int 1))) (aD (fV 1) aNil))) (fAndV (fB (gEq true) (fB gIx (fVx 0) (fC (.int 1))) (fTup fNil)) (fCl 2 m_are_places (aD (fB gIx (fVx 0) (fC (.int 2))) (aD (fV 1) aNil)))))))
def m_is_task_of : MF := mOf 2 g_is_task_of
def g_is_sheet : MS := (sSeq (sIf (fOrT (fNotT (fTv (fCl 2 m_is_tuple (aD (fV 0) (aD (fC (.int 5)) aNil))))) (fOrT (fNotT (fTv (fIsi "str" (fB gIx (fVx 0) (fC (.int 0)))))) (fTv (fB (gEq true) (fB gIx (fVx 0) (fC (.int 0))) (fC (.str "sheet")))))) (sRet (fC (.bool false))) sNil) (sSeq (sIf (fOrT (fNotT (fTv (fCl 3 m_is_within (aD (fB gIx (fVx 0) (fC (.int 1))) (aD (fC (.int 1)) (aD (fC (.int 16)) aNil)))))) (fNotT (fTv (fIsi "tuple" (fB gIx (fVx 0) (fC (.int 2))))))) (sRet (fC (.bool false))) sNil) (sSeq (sIf (fNotT (fTv (fCh gLe gLe (fC (.int 1)) (fU gLen (fB gIx (fVx 0) (fC (.int 2)))) (fC (.int 24))))) (sRet (fC (.bool false))) sNil) (sSeq (sIf (fNotT (fTv (fU gAll (fL (fLc (iA (fB gIx (fVx 0) (fC (.int 2)))) [1] (tName 1) bYes (fCl 2 m_is_task_of (aD (fV 1) (aD (fB gIx (fVx 0) (fC (.int 1))) aNil)))))))) (sRet (fC (.bool false))) sNil) (sRet (fAndV (fCl 2 m_is_standing_of (aD (fB gIx (fVx 0) (fC (.int 3))) (aD (fB gIx (fVx 0) (fC (.int 1))) aNil))) (fCl 2 m_is_standing_of (aD (fB gIx (fVx 0) (fC (.int 4))) (aD (fB gIx (fVx 0) (fC (.int 1))) aNil)))))))))
def m_is_sheet : MF := mOf 2 g_is_sheet
def g_want_sheet : MS := (sIf (fNotT (fTv (fCl 1 m_is_sheet (aD (fV 0) aNil)))) sNever sNil)
def m_want_sheet : MF := mOf 1 g_want_sheet
def g_want_standing : MS := (sIf (fNotT (fTv (fCl 2 m_is_standing_of (aD (fV 1) (aD (fB gIx (fVx 0) (fC (.int 1))) aNil))))) sNever sNil)
def m_want_standing : MF := mOf 2 g_want_standing
def g_is_list : MS := (sRet (fU (gIsi2 "list" "tuple") (fVx 0)))
def m_is_list : MF := mOf 1 g_is_list
def g_are_tasks : MS := (sRet (fAndV (fCl 1 m_is_list (aD (fV 1) aNil)) (fAndV (fB gLe (fU gLen (fVx 1)) (fVx 2)) (fU gAll (fL (fLc (iA (fV 1)) [3] (tName 3) bYes (fCl 3 m_is_within (aD (fV 3) (aD (fC (.int 0)) (aD (fB gSubI (fU gLen (fB gIx (fVx 0) (fC (.int 2)))) (fC (.int 1))) aNil))))))))))
def m_are_tasks : MF := mOf 4 g_are_tasks
def g_want_run : MS := (sIf (fNotT (fTv (fCl 3 m_are_tasks (aD (fV 0) (aD (fV 1) (aD (fC (.int 400)) aNil)))))) sNever sNil)
def m_want_run : MF := mOf 2 g_want_run
def g_behind_task : MS := (sSeq (sSetM 3 (fUN gList (fVx 1))) (sSeq (sFor (iA (fB gIx (fB gIx (fB gIx (fVx 0) (fC (.int 2))) (fVx 2)) (fC (.int 1)))) (tName 4) (sSetIx 3 (fVx 4) (fB gSubI (fB gIx (fVx 3) (fVx 4)) (fC (.int 1))))) (sSeq (sFor (iA (fB gIx (fB gIx (fB gIx (fVx 0) (fC (.int 2))) (fVx 2)) (fC (.int 2)))) (tName 4) (sSetIx 3 (fVx 4) (fB gAdd (fB gIx (fVx 3) (fVx 4)) (fC (.int 1))))) (sRet (fIf (fTv (fB gLe (fU gMaxL (fVx 3)) (fC (.int 9)))) (fU gTuple (fVx 3)) (fC .none))))))
def m_behind_task : MF := mOf 5 g_behind_task
def g_can_do : MS := (sRet (fU gAll (fL (fLc (iA (fB gIx (fB gIx (fB gIx (fVx 0) (fC (.int 2))) (fVx 2)) (fC (.int 1)))) [3] (tName 3) bYes (fB gGt (fB gIx (fVx 1) (fVx 3)) (fC (.int 0)))))))
def m_can_do : MF := mOf 4 g_can_do
def g_first_wrong : MS := (sSeq (sSet 3 (fV 1)) (sSeq (sFor (iE (fV 2)) (tTupG (tsCons (tName 4) (tsCons (tName 5) tsNil)) 2) (sSeq (sIf (fNotT (fTv (fCl 3 m_can_do (aD (fV 0) (aD (fV 3) (aD (fV 5) aNil)))))) (sRet (fTup (fCons (fV 4) (fCons (fC (.str "not")) fNil)))) sNil) (sSeq (sSet 3 (fCl 3 m_behind_task (aD (fV 0) (aD (fV 3) (aD (fV 5) aNil))))) (sIf (fTv (fB (gIsN false) (fVx 3) (fC .none))) (sRet (fTup (fCons (fV 4) (fCons (fC (.str "spills")) fNil)))) sNil)))) (sRet (fC .none))))
def m_first_wrong : MF := mOf 6 g_first_wrong
def g_run_flaw : MS := (sSeq (sDrop (fCl 1 m_want_sheet (aD (fV 0) aNil))) (sSeq (sDrop (fCl 2 m_want_standing (aD (fV 0) (aD (fV 1) aNil)))) (sSeq (sDrop (fCl 2 m_want_run (aD (fV 0) (aD (fV 2) aNil)))) (sRet (fCl 3 m_first_wrong (aD (fV 0) (aD (fV 1) (aD (fV 2) aNil))))))))
def m_run_flaw : MF := mOf 3 g_run_flaw
def g_led : MS := (sSeq (sSet 3 (fV 1)) (sSeq (sFor (iA (fV 2)) (tName 4) (sSeq (sSet 3 (fIf (fTv (fCl 3 m_can_do (aD (fV 0) (aD (fV 3) (aD (fV 4) aNil))))) (fCl 3 m_behind_task (aD (fV 0) (aD (fV 3) (aD (fV 4) aNil)))) (fC .none))) (sIf (fTv (fB (gIsN false) (fVx 3) (fC .none))) (sRet (fC .none)) sNil))) (sRet (fV 3))))
def m_led : MF := mOf 5 g_led
def g_standing_behind : MS := (sSeq (sDrop (fCl 1 m_want_sheet (aD (fV 0) aNil))) (sSeq (sDrop (fCl 2 m_want_standing (aD (fV 0) (aD (fV 1) aNil)))) (sSeq (sDrop (fCl 2 m_want_run (aD (fV 0) (aD (fV 2) aNil)))) (sRet (fCl 3 m_led (aD (fV 0) (aD (fV 1) (aD (fV 2) aNil))))))))
def m_standing_behind : MF := mOf 3 g_standing_behind
def g_row_along : MR := (fLc (iA (fV 1)) [2] (tName 2) (fTv (fB (gEq true) (fB gIx (fB gIx (fB gIx (fVx 0) (fC (.int 2))) (fVx 2)) (fC (.int 0))) (fC (.str "")))) (fB gIx (fB gIx (fB gIx (fVx 0) (fC (.int 2))) (fVx 2)) (fC (.int 0))))
def m_row_along : MFN := mOfR 3 g_row_along
def g_row_of : MR := (rSeq (sDrop (fCl 1 m_want_sheet (aD (fV 0) aNil))) (rSeq (sDrop (fCl 2 m_want_run (aD (fV 0) (aD (fV 1) aNil)))) (fClN 2 m_row_along (aD (fV 0) (aD (fV 1) aNil)))))
def m_row_of : MFN := mOfR 2 g_row_of
def g_is_whole_run : MS := (sSeq (sDrop (fCl 1 m_want_sheet (aD (fV 0) aNil))) (sSeq (sDrop (fCl 2 m_want_run (aD (fV 0) (aD (fV 1) aNil)))) (sRet (fB (gEq false) (fCl 3 m_led (aD (fV 0) (aD (fB gIx (fVx 0) (fC (.int 3))) (aD (fV 1) aNil)))) (fB gIx (fVx 0) (fC (.int 4)))))))
def m_is_whole_run : MF := mOf 2 g_is_whole_run
def g_can_be_done : MS := (sSeq (sDrop (fCl 1 m_want_sheet (aD (fV 0) aNil))) (sSeq (sDrop (fCl 2 m_want_standing (aD (fV 0) (aD (fV 1) aNil)))) (sRet (fL (fLc (iR1 (fU gLen (fB gIx (fVx 0) (fC (.int 2))))) [2] (tName 2) (fTv (fCl 3 m_can_do (aD (fV 0) (aD (fV 1) (aD (fV 2) aNil))))) (fV 2))))))
def m_can_be_done : MF := mOf 3 g_can_be_done
def g_want_task : MS := (sIf (fNotT (fTv (fCl 3 m_is_within (aD (fV 1) (aD (fC (.int 0)) (aD (fB gSubI (fU gLen (fB gIx (fVx 0) (fC (.int 2)))) (fC (.int 1))) aNil)))))) sNever sNil)
def m_want_task : MF := mOf 2 g_want_task
def g_behind : MS := (sSeq (sDrop (fCl 1 m_want_sheet (aD (fV 0) aNil))) (sSeq (sDrop (fCl 2 m_want_standing (aD (fV 0) (aD (fV 1) aNil)))) (sSeq (sDrop (fCl 2 m_want_task (aD (fV 0) (aD (fV 2) aNil)))) (sRet (fCl 3 m_led (aD (fV 0) (aD (fV 1) (aD (fL (fLst (fCons (fV 2) fNil))) aNil))))))))
def m_behind : MF := mOf 3 g_behind
def g_is_entry : MS := (sSeq (sIf (fOrT (fNotT (fTv (fCl 2 m_is_tuple (aD (fV 0) (aD (fC (.int 2)) aNil))))) (fNotT (fTv (fCl 3 m_is_within (aD (fB gIx (fVx 0) (fC (.int 1))) (aD (fC (.int 0)) (aD (fC (.int 1)) aNil))))))) (sRet (fC (.bool false))) sNil) (sRet (fOrV (fB (gIsN false) (fB gIx (fVx 0) (fC (.int 0))) (fC .none)) (fAndV (fIsi "str" (fB gIx (fVx 0) (fC (.int 0)))) (fOrV (fB (gEq false) (fB gIx (fVx 0) (fC (.int 0))) (fC (.str ""))) (fCl 1 m_is_name (aD (fB gIx (fVx 0) (fC (.int 0))) aNil)))))))
def m_is_entry : MF := mOf 1 g_is_entry
def g_is_book_of : MS := (sRet (fAndV (fCl 2 m_is_tuple (aD (fV 1) (aD (fU gLen (fB gIx (fVx 0) (fC (.int 2)))) aNil))) (fU gAll (fL (fLc (iA (fV 1)) [2] (tName 2) bYes (fCl 1 m_is_entry (aD (fV 2) aNil)))))))
def m_is_book_of : MF := mOf 3 g_is_book_of
def g_is_book : MS := (sSeq (sDrop (fCl 1 m_want_sheet (aD (fV 0) aNil))) (sRet (fCl 2 m_is_book_of (aD (fV 0) (aD (fV 1) aNil)))))
def m_is_book : MF := mOf 2 g_is_book
def g_is_plan_of : MS := (sRet (fAndV (fCl 2 m_is_tuple (aD (fV 1) (aD (fU gLen (fB gIx (fVx 0) (fC (.int 2)))) aNil))) (fU gAll (fL (fLc (iA (fV 1)) [2] (tName 2) bYes (fAndV (fIsi "str" (fVx 2)) (fB (gIn false) (fVx 2) (fC (.tuple [.str "ahead", .str "behind", .str "keyed", .str "redo"])))))))))
def m_is_plan_of : MF := mOf 3 g_is_plan_of
def g_is_plan : MS := (sSeq (sDrop (fCl 1 m_want_sheet (aD (fV 0) aNil))) (sRet (fCl 2 m_is_plan_of (aD (fV 0) (aD (fV 1) aNil)))))
def m_is_plan : MF := mOf 2 g_is_plan
def g_want_book : MS := (sSeq (sDrop (fCl 1 m_want_sheet (aD (fV 0) aNil))) (sIf (fNotT (fTv (fCl 2 m_is_book_of (aD (fV 0) (aD (fV 1) aNil))))) sNever sNil))
def m_want_book : MF := mOf 2 g_want_book
def g_is_run_of : MS := (sRet (fAndV (fCl 3 m_are_tasks (aD (fV 0) (aD (fV 1) (aD (fC (.int 20000)) aNil)))) (fB (gIsN true) (fCl 3 m_led (aD (fV 0) (aD (fB gIx (fVx 0) (fC (.int 3))) (aD (fV 1) aNil)))) (fC .none))))
def m_is_run_of : MF := mOf 2 g_is_run_of
def g_is_fall_of : MS := (sSeq (sIf (fOrT (fNotT (fTv (fCl 2 m_is_tuple (aD (fV 2) (aD (fC (.int 2)) aNil))))) (fOrT (fNotT (fTv (fCl 2 m_is_run_of (aD (fV 0) (aD (fB gIx (fVx 2) (fC (.int 0))) aNil))))) (fNotT (fTv (fCl 3 m_is_within (aD (fB gIx (fVx 2) (fC (.int 1))) (aD (fC (.int 0)) (aD (fB gSubI (fU gLen (fVx 1)) (fC (.int 1))) aNil)))))))) (sRet (fC (.bool false))) sNil) (sRet (fAndV (fB (gEq false) (fB gIx (fB gIx (fVx 1) (fB gIx (fVx 2) (fC (.int 1)))) (fC (.int 1))) (fC (.int 1))) (fCl 3 m_can_do (aD (fV 0) (aD (fCl 3 m_led (aD (fV 0) (aD (fB gIx (fVx 0) (fC (.int 3))) (aD (fB gIx (fVx 2) (fC (.int 0))) aNil)))) (aD (fB gIx (fVx 2) (fC (.int 1))) aNil)))))))
def m_is_fall_of : MF := mOf 3 g_is_fall_of
def g_is_fall : MS := (sSeq (sDrop (fCl 2 m_want_book (aD (fV 0) (aD (fV 1) aNil)))) (sRet (fCl 3 m_is_fall_of (aD (fV 0) (aD (fV 1) (aD (fV 2) aNil))))))
def m_is_fall : MF := mOf 3 g_is_fall
def g_has_fixed : MS := (sRet (fU gAny (fL (fLc (iA (fV 1)) [2] (tName 2) bYes (fB (gIsN false) (fB gIx (fB gIx (fVx 0) (fVx 2)) (fC (.int 0))) (fC .none))))))
def m_has_fixed : MF := mOf 3 g_has_fixed
def g_is_torn_of : MS := (sRet (fAndV (fCl 3 m_is_fall_of (aD (fV 0) (aD (fV 1) (aD (fV 2) aNil)))) (fCl 2 m_has_fixed (aD (fV 1) (aD (fB gIx (fVx 2) (fC (.int 0))) aNil)))))
def m_is_torn_of : MF := mOf 3 g_is_torn_of
def g_is_torn : MS := (sSeq (sDrop (fCl 2 m_want_book (aD (fV 0) (aD (fV 1) aNil)))) (sRet (fCl 3 m_is_torn_of (aD (fV 0) (aD (fV 1) (aD (fV 2) aNil))))))
def m_is_torn : MF := mOf 3 g_is_torn
def g_undo_names : MS := (sSeq (sDrop (fCl 2 m_want_book (aD (fV 0) (aD (fV 1) aNil)))) (sSeq (sDrop (fCl 2 m_want_run (aD (fV 0) (aD (fV 2) aNil)))) (sSeq (sIf (fTv (fCl 2 m_has_fixed (aD (fV 1) (aD (fV 2) aNil)))) (sRet (fC .none)) sNil) (sRet (fL (fLc (iL (fL (fRevL (fL (fUN gList (fVx 2)))))) [3] (tName 3) (fTv (fB (gEq true) (fB gIx (fB gIx (fVx 1) (fVx 3)) (fC (.int 0))) (fC (.str "")))) (fB gIx (fB gIx (fVx 1) (fVx 3)) (fC (.int 0)))))))))
def m_undo_names : MF := mOf 4 g_undo_names
def g_is_lot : MS := (sRet (fAndV (fIsi "tuple" (fVx 0)) (fAndV (fU gAll (fL (fLc (iA (fV 0)) [2] (tName 2) bYes (fCl 3 m_is_within (aD (fV 2) (aD (fC (.int 0)) (aD (fV 1) aNil))))))) (fCl 1 m_are_rising (aD (fV 0) aNil)))))
def m_is_lot : MF := mOf 3 g_is_lot
def g_is_undos : MS := (sRet (fAndV (fCl 2 m_is_lot (aD (fV 1) (aD (fB gSubI (fU gLen (fVx 0)) (fC (.int 1))) aNil))) (fU gAll (fL (fLc (iA (fV 1)) [2] (tName 2) bYes (fB (gIsN false) (fB gIx (fB gIx (fVx 0) (fVx 2)) (fC (.int 0))) (fC .none)))))))
def m_is_undos : MF := mOf 3 g_is_undos
def g_is_agains : MS := (sRet (fAndV (fCl 2 m_is_lot (aD (fV 1) (aD (fB gSubI (fU gLen (fVx 0)) (fC (.int 1))) aNil))) (fU gAll (fL (fLc (iA (fV 1)) [2] (tName 2) bYes (fB (gEq false) (fB gIx (fB gIx (fVx 0) (fVx 2)) (fC (.int 1))) (fC (.int 1))))))))
def m_is_agains : MF := mOf 3 g_is_agains
def g_want_mend : MS := (sSeq (sDrop (fCl 2 m_want_book (aD (fV 0) (aD (fV 1) aNil)))) (sSeq (sIf (fNotT (fTv (fCl 2 m_is_undos (aD (fV 1) (aD (fV 2) aNil))))) sNever sNil) (sIf (fNotT (fTv (fCl 2 m_is_agains (aD (fV 1) (aD (fV 3) aNil))))) sNever sNil)))
def m_want_mend : MF := mOf 4 g_want_mend
def g_mended_book : MS := (sSeq (sSetM 3 (fLst fNil)) (sSeq (sFor (iE (fV 0)) (tTupG (tsCons (tName 4) (tsCons (tTupG (tsCons (tName 5) (tsCons (tName 6) tsNil)) 2) tsNil)) 2) (sApp 3 (fTup (fCons (fIf (fTv (fB (gIn false) (fVx 4) (fVx 1))) (fC (.str "undo")) (fV 5)) (fCons (fIf (fTv (fB (gIn false) (fVx 4) (fVx 2))) (fC (.int 0)) (fV 6)) fNil))))) (sRet (fU gTuple (fVx 3)))))
def m_mended_book : MF := mOf 7 g_mended_book
def g_mended : MS := (sSeq (sDrop (fCl 4 m_want_mend (aD (fV 0) (aD (fV 1) (aD (fV 2) (aD (fV 3) aNil)))))) (sRet (fCl 3 m_mended_book (aD (fV 1) (aD (fV 2) (aD (fV 3) aNil))))))
def m_mended : MF := mOf 4 g_mended
def g_is_pace : MS := (sSeq (sIf (fOrT (fNotT (fTv (fCl 2 m_is_tuple (aD (fV 0) (aD (fC (.int 2)) aNil))))) (fNotT (fTv (fCl 3 m_is_within (aD (fB gIx (fVx 0) (fC (.int 0))) (aD (fC (.int 0)) (aD (fC (.int 60)) aNil))))))) (sRet (fC (.bool false))) sNil) (sRet (fOrV (fB (gIsN false) (fB gIx (fVx 0) (fC (.int 1))) (fC .none)) (fCl 3 m_is_within (aD (fB gIx (fVx 0) (fC (.int 1))) (aD (fB gIx (fVx 0) (fC (.int 0))) (aD (fC (.int 60)) aNil)))))))
def m_is_pace : MF := mOf 1 g_is_pace
def g_are_paces : MS := (sRet (fAndV (fCl 2 m_is_tuple (aD (fV 1) (aD (fU gLen (fB gIx (fVx 0) (fC (.int 2)))) aNil))) (fU gAll (fL (fLc (iA (fV 1)) [2] (tName 2) bYes (fCl 1 m_is_pace (aD (fV 2) aNil)))))))
def m_are_paces : MF := mOf 3 g_are_paces
def g_want_paced : MS := (sSeq (sDrop (fCl 1 m_want_sheet (aD (fV 0) aNil))) (sIf (fNotT (fTv (fCl 2 m_are_paces (aD (fV 0) (aD (fV 1) aNil))))) sNever sNil))
def m_want_paced : MF := mOf 2 g_want_paced
def g_most_clock : MS := (sRet (fIf (fTv (fB (gIsN false) (fB gIx (fVx 0) (fC (.int 1))) (fC .none))) (fB gIx (fVx 0) (fC (.int 0))) (fB gIx (fVx 0) (fC (.int 1)))))
def m_most_clock : MF := mOf 1 g_most_clock
def g_ticked : MS := (sSeq (sSetM 2 (fLst fNil)) (sSeq (sFor (iZ (fB gIx (fVx 1) (fC (.int 1))) (fV 0)) (tTupG (tsCons (tName 3) (tsCons (tName 4) tsNil)) 2) (sSeq (sIf (fAndT (fTv (fB (gIsN true) (fVx 3) (fC .none))) (fAndT (fTv (fB (gIsN true) (fB gIx (fVx 4) (fC (.int 1))) (fC .none))) (fTv (fB gGe (fVx 3) (fB gIx (fVx 4) (fC (.int 1))))))) (sRet (fC .none)) sNil) (sApp 2 (fIf (fTv (fB (gIsN false) (fVx 3) (fC .none))) (fC .none) (fB gMin2 (fB gAdd (fVx 3) (fC (.int 1))) (fCl 1 m_most_clock (aD (fV 4) aNil))))))) (sRet (fTup (fCons (fB gIx (fVx 1) (fC (.int 0))) (fCons (fU gTuple (fVx 2)) fNil))))))
def m_ticked : MF := mOf 5 g_ticked
def g_taken : MS := (sRet (fU gTuple (fL (fLc (iE (fV 1)) [3, 4] (tTupG (tsCons (tName 3) (tsCons (tName 4) tsNil)) 2) bYes (fIf (fTv (fB (gIn false) (fVx 3) (fB gIx (fB gIx (fB gIx (fVx 0) (fC (.int 2))) (fVx 2)) (fC (.int 1))))) (fB gSubI (fVx 4) (fC (.int 1))) (fV 4))))))
def m_taken : MF := mOf 5 g_taken
def g_done : MS := (sSeq (sSet 4 (fB gIx (fB gIx (fVx 2) (fC (.int 1))) (fVx 3))) (sSeq (sSet 5 (fIf (fOrT (fTv (fB (gIsN false) (fVx 4) (fC .none))) (fTv (fB gLt (fVx 4) (fB gIx (fB gIx (fVx 1) (fVx 3)) (fC (.int 0)))))) (fC .none) (fCl 3 m_behind_task (aD (fV 0) (aD (fB gIx (fVx 2) (fC (.int 0))) (aD (fV 3) aNil)))))) (sSeq (sIf (fTv (fB (gIsN false) (fVx 5) (fC .none))) (sRet (fC .none)) sNil) (sSeq (sPar 6 7 (aD (fCl 3 m_taken (aD (fV 0) (aD (fB gIx (fVx 2) (fC (.int 0))) (aD (fV 3) aNil)))) (aN (fLst fNil) aNil))) (sSeq (sFor (iE (fB gIx (fVx 2) (fC (.int 1)))) (tTupG (tsCons (tName 8) (tsCons (tName 9) tsNil)) 2) (sIf (fNotT (fTv (fCl 3 m_can_do (aD (fV 0) (aD (fV 5) (aD (fV 8) aNil)))))) (sApp 7 (fC .none)) (sApp 7 (fIf (fAndT (fTv (fB (gEq true) (fVx 8) (fVx 3))) (fTv (fCl 3 m_can_do (aD (fV 0) (aD (fV 6) (aD (fV 8) aNil)))))) (fV 9) (fC (.int 0)))))) (sRet (fTup (fCons (fV 5) (fCons (fU gTuple (fVx 7)) fNil)))))))))
def m_done : MF := mOf 10 g_done
def g_moves_at : MR := (rSeq (sSetM 3 (fLst (fCons (fTup (fCons (fC .none) (fCons (fCl 2 m_ticked (aD (fV 1) (aD (fV 2) aNil))) fNil))) fNil))) (rSeq (sFor (iE (fB gIx (fVx 2) (fC (.int 1)))) (tTupG (tsCons (tName 4) (tsCons (tName 5) tsNil)) 2) (sApp 3 (fTup (fCons (fV 4) (fCons (fIf (fTv (fB (gIsN false) (fVx 5) (fC .none))) (fC .none) (fCl 4 m_done (aD (fV 0) (aD (fV 1) (aD (fV 2) (aD (fV 4) aNil)))))) fNil))))) (rFrz 3 (fLc (iL (fV 3)) [6] (tName 6) (fTv (fB (gIsN true) (fB gIx (fVx 6) (fC (.int 1))) (fC .none))) (fV 6)))))
def m_moves_at : MFN := mOfR 7 g_moves_at
def g_is_clock : MS := (sSeq (sIf (fNotT (fTv (fCl 3 m_can_do (aD (fV 0) (aD (fV 2) (aD (fV 3) aNil)))))) (sRet (fB (gIsN false) (fVx 4) (fC .none))) sNil) (sRet (fCl 3 m_is_within (aD (fV 4) (aD (fC (.int 0)) (aD (fCl 1 m_most_clock (aD (fB gIx (fVx 1) (fVx 3)) aNil)) aNil))))))
def m_is_clock : MF := mOf 5 g_is_clock
def g_is_moment_of : MS := (sSeq (sIf (fOrT (fNotT (fTv (fCl 2 m_is_tuple (aD (fV 2) (aD (fC (.int 2)) aNil))))) (fOrT (fNotT (fTv (fCl 2 m_is_standing_of (aD (fB gIx (fVx 2) (fC (.int 0))) (aD (fB gIx (fVx 0) (fC (.int 1))) aNil))))) (fNotT (fTv (fCl 2 m_is_tuple (aD (fB gIx (fVx 2) (fC (.int 1))) (aD (fU gLen (fB gIx (fVx 0) (fC (.int 2)))) aNil))))))) (sRet (fC (.bool false))) sNil) (sRet (fU gAll (fL (fLc (iE (fB gIx (fVx 2) (fC (.int 1)))) [3, 4] (tTupG (tsCons (tName 3) (tsCons (tName 4) tsNil)) 2) bYes (fCl 5 m_is_clock (aD (fV 0) (aD (fV 1) (aD (fB gIx (fVx 2) (fC (.int 0))) (aD (fV 3) (aD (fV 4) aNil)))))))))))
def m_is_moment_of : MF := mOf 5 g_is_moment_of
def g_moves : MR := (rSeq (sDrop (fCl 2 m_want_paced (aD (fV 0) (aD (fV 1) aNil)))) (rSeq (sIf (fNotT (fTv (fCl 3 m_is_moment_of (aD (fV 0) (aD (fV 1) (aD (fV 2) aNil)))))) sNever sNil) (fClN 3 m_moves_at (aD (fV 0) (aD (fV 1) (aD (fV 2) aNil))))))
def m_moves : MFN := mOfR 3 g_moves
def g_is_paces : MS := (sSeq (sDrop (fCl 1 m_want_sheet (aD (fV 0) aNil))) (sRet (fCl 2 m_are_paces (aD (fV 0) (aD (fV 1) aNil)))))
def m_is_paces : MF := mOf 2 g_is_paces
def g_begun : MS := (sRet (fTup (fCons (fB gIx (fVx 0) (fC (.int 3))) (fCons (fU gTuple (fL (fLc (iR1 (fU gLen (fB gIx (fVx 0) (fC (.int 2))))) [1] (tName 1) bYes (fIf (fTv (fCl 3 m_can_do (aD (fV 0) (aD (fB gIx (fVx 0) (fC (.int 3))) (aD (fV 1) aNil))))) (fC (.int 0)) (fC .none))))) fNil))))
def m_begun : MF := mOf 2 g_begun
def g_first_moment : MS := (sSeq (sDrop (fCl 2 m_want_paced (aD (fV 0) (aD (fV 1) aNil)))) (sRet (fCl 1 m_begun (aD (fV 0) aNil))))
def m_first_moment : MF := mOf 2 g_first_moment
def g_is_moment : MS := (sSeq (sDrop (fCl 2 m_want_paced (aD (fV 0) (aD (fV 1) aNil)))) (sRet (fCl 3 m_is_moment_of (aD (fV 0) (aD (fV 1) (aD (fV 2) aNil))))))
def m_is_moment : MF := mOf 3 g_is_moment
end Pg

set_option maxHeartbeats 2000000
namespace DL
open PySem L2
set_option autoImplicit false
theorem gEq_str (neg : Bool) (x y : Str) : gEq neg (.str x) (.str y) = some (.bool (if neg = true then !decide (x = y) else decide (x = y))) := rfl
theorem gEq_int (neg : Bool) (x y : Int) : gEq neg (.int x) (.int y) = some (.bool (if neg = true then !decide (x = y) else decide (x = y))) := rfl
theorem le_line {n : Nat} (h : n ≤ 1000) : (n ≤ sizeLine) = True := eq_true (by rw [sizeLine_eq]; omega)
theorem cast_2 : ((2 : Nat) : Int) = 2 := rfl
theorem cast_3 : ((3 : Nat) : Int) = 3 := rfl
theorem cast_4 : ((4 : Nat) : Int) = 4 := rfl
theorem cast_5 : ((5 : Nat) : Int) = 5 := rfl
theorem cast_1 : ((1 : Nat) : Int) = 1 := rfl
theorem cast_0 : ((0 : Nat) : Int) = 0 := rfl
theorem gLen_tup (xs : List PyData) : gLen (.tuple xs) = some (.int xs.length) := rfl
theorem gLen_lst (xs : List PyData) : gLen (.list xs) = some (.int xs.length) := rfl
theorem gIx_tup (xs : List PyData) (i : Int) : gIx (.tuple xs) (.int i) = atI xs i := rfl
theorem gIx_lst (xs : List PyData) (i : Int) : gIx (.list xs) (.int i) = atI xs i := rfl
theorem gAdd_int (i j : Int) : gAdd (.int i) (.int j) = some (.int (i + j)) := rfl
theorem kit_int (d : PyData) : kitB (tyName d) "int" = some (match d with | .int _ => true | .bool _ => true | _ => false) := by cases d <;> (dsimp only [tyName]; decide +kernel)
theorem kit_bool (d : PyData) : kitB (tyName d) "bool" = some (match d with | .bool _ => true | _ => false) := by cases d <;> (dsimp only [tyName]; decide +kernel)
theorem kit_str (d : PyData) : kitB (tyName d) "str" = some (match d with | .str _ => true | _ => false) := by cases d <;> (dsimp only [tyName]; decide +kernel)
theorem kit_tuple (d : PyData) : kitB (tyName d) "tuple" = some (match d with | .tuple _ => true | _ => false) := by cases d <;> (dsimp only [tyName]; decide +kernel)
theorem kit_list (d : PyData) : kitB (tyName d) "list" = some (match d with | .list _ => true | _ => false) := by cases d <;> (dsimp only [tyName]; decide +kernel)
def dInt : PyData → Bool
  | .int _ => true
  | _ => false
def dTup : PyData → Bool
  | .tuple _ => true
  | _ => false
def dLst : PyData → Bool
  | .list _ => true
  | _ => false
def dStr : PyData → Bool
  | .str _ => true
  | _ => false
def dBool : PyData → Bool
  | .bool _ => true
  | _ => false
theorem isi_int (d : PyData) : gIsi "int" d = some (.bool (dInt d || dBool d)) := by unfold gIsi; rw [kit_int]; cases d <;> rfl
theorem isi_bool (d : PyData) : gIsi "bool" d = some (.bool (dBool d)) := by unfold gIsi; rw [kit_bool]; cases d <;> rfl
theorem isi_str (d : PyData) : gIsi "str" d = some (.bool (dStr d)) := by unfold gIsi; rw [kit_str]; cases d <;> rfl
theorem isi_tuple (d : PyData) : gIsi "tuple" d = some (.bool (dTup d)) := by unfold gIsi; rw [kit_tuple]; cases d <;> rfl
theorem isi_list (d : PyData) : gIsi "list" d = some (.bool (dLst d)) := by unfold gIsi; rw [kit_list]; cases d <;> rfl
/-- a whole number from least to most -/
def dIn (a b : Int) : PyData → Bool
  | .int i => decide (a ≤ i) && decide (i ≤ b)
  | _ => false

section
variable {own : List Nat} {t : MG} {b : MT} {f : MX} {ρ : Ev}
theorem lcM_pure (p : PyData → Bool) (g : PyData → PyData) : ∀ (ds : List PyData) (π : Pt), (∀ x ∈ ds, ∃ ρ1, t x (wipeE ρ own) = some ρ1 ∧ b ρ1 π = some (p x, π) ∧ (p x = true → f ρ1 π = some (g x, π))) → lcM own t b f ρ ds π = some ((ds.filter p).map g, π)
  | [], π, _ => rfl
  | x :: ds, π, h => by
    obtain ⟨ρ1, h1, h2, h3⟩ := h x List.mem_cons_self
    have ih := lcM_pure p g ds π fun y hy => h y (List.mem_cons_of_mem _ hy)
    unfold lcM
    rw [h1]
    simp only [Option.bind_some, h2]
    cases hp : p x with
    | true => simp only [if_true, h3 hp, Option.bind_some, ih, Option.map_some, List.filter_cons, hp, List.map_cons]
    | false => simp only [Bool.false_eq_true, if_false, ih, List.filter_cons, hp]
theorem lcM_map (g : PyData → PyData) (ds : List PyData) (π : Pt) (h : ∀ x ∈ ds, ∃ ρ1, t x (wipeE ρ own) = some ρ1 ∧ b ρ1 π = some (true, π) ∧ f ρ1 π = some (g x, π)) : lcM own t b f ρ ds π = some (ds.map g, π) := by
  have q := lcM_pure (own := own) (t := t) (b := b) (f := f) (ρ := ρ) (fun _ => true) g ds π fun x hx => by
    obtain ⟨ρ1, h1, h2, h3⟩ := h x hx
    exact ⟨ρ1, h1, h2, fun _ => h3⟩
  rw [q, List.filter_eq_self.mpr fun _ _ => rfl]
theorem fLc_pure {it : ML} {ds : List PyData} {π π1 : Pt} (p : PyData → Bool) (g : PyData → PyData) (hi : it ρ π = some (ds, π1)) (hl : ds.length ≤ sizeLine)
    (h : ∀ x ∈ ds, ∃ ρ1, t x (wipeE ρ own) = some ρ1 ∧ b ρ1 π1 = some (p x, π1) ∧ (p x = true → f ρ1 π1 = some (g x, π1))) : fLc it own t b f ρ π = some ((ds.filter p).map g, π1) := by
  unfold fLc
  rw [hi]
  simp only [Option.bind_some, hl, if_true]
  exact lcM_pure p g ds π1 h
theorem fLc_map {it : ML} {ds : List PyData} {π π1 : Pt} (g : PyData → PyData) (hi : it ρ π = some (ds, π1)) (hl : ds.length ≤ sizeLine)
    (h : ∀ x ∈ ds, ∃ ρ1, t x (wipeE ρ own) = some ρ1 ∧ b ρ1 π1 = some (true, π1) ∧ f ρ1 π1 = some (g x, π1)) : fLc it own t b f ρ π = some (ds.map g, π1) := by
  unfold fLc
  rw [hi]
  simp only [Option.bind_some, hl, if_true]
  exact lcM_map g ds π1 h
/-- the pot goes along -/
theorem lcM_ex (P : PyData → Prop) : ∀ (ds : List PyData) (π : Pt), (∀ x ∈ ds, ∀ π, ∃ ρ1 π1 y π2, t x (wipeE ρ own) = some ρ1 ∧ b ρ1 π = some (true, π1) ∧ f ρ1 π1 = some (y, π2) ∧ P y) → ∃ ys π', lcM own t b f ρ ds π = some (ys, π') ∧ ys.length = ds.length ∧ ∀ y ∈ ys, P y
  | [], π, _ => ⟨[], π, rfl, rfl, fun _ h => nomatch h⟩
  | x :: ds, π, h => by
    obtain ⟨ρ1, π1, y, π2, h1, h2, h3, h4⟩ := h x List.mem_cons_self π
    obtain ⟨ys, π', e, hl, hp⟩ := lcM_ex P ds π2 fun y hy => h y (List.mem_cons_of_mem _ hy)
    refine ⟨y :: ys, π', ?_, by rw [List.length_cons, List.length_cons, hl], fun z hz => ?_⟩
    · unfold lcM
      rw [h1]
      simp only [Option.bind_some, h2, if_true, h3, e, Option.map_some]
    · rcases List.mem_cons.mp hz with e | e
      · rw [e]; exact h4
      · exact hp z e
end
theorem forM_inv {t : MG} {g : MS} (I : Nat → Ev → Prop) : ∀ (ds : List PyData) (i : Nat) (ρ : Ev) (π : Pt), I i ρ → (∀ j x, ds[j]? = some x → ∀ ρ π, I (i + j) ρ → ∃ ρ1 ρ2 π', t x ρ = some ρ1 ∧ g ρ1 π = some (.nx ρ2, π') ∧ I (i + j + 1) ρ2) → ∃ ρ' π', forM t g ds ρ π = some (.nx ρ', π') ∧ I (i + ds.length) ρ'
  | [], i, ρ, π, hi, _ => ⟨ρ, π, rfl, hi⟩
  | x :: ds, i, ρ, π, hi, h => by
    obtain ⟨ρ1, ρ2, π1, h1, h2, h3⟩ := h 0 x rfl ρ π hi
    have nx : ∀ j y, ds[j]? = some y → ∀ ρ π, I (i + 1 + j) ρ → ∃ ρ1 ρ2 π', t y ρ = some ρ1 ∧ g ρ1 π = some (.nx ρ2, π') ∧ I (i + 1 + j + 1) ρ2 := fun j y hy ρ π hq => by
      have e1 : i + (j + 1) = i + 1 + j := by omega
      obtain ⟨ρ3, ρ4, π3, q1, q2, q3⟩ := h (j + 1) y (by simpa using hy) ρ π (by rw [e1]; exact hq)
      rw [e1] at q3
      exact ⟨ρ3, ρ4, π3, q1, q2, q3⟩
    obtain ⟨ρ', π', e, hI⟩ := forM_inv (t := t) (g := g) I ds (i + 1) ρ2 π1 h3 nx
    refine ⟨ρ', π', ?_, ?_⟩
    · unfold forM
      rw [h1]
      simp only [Option.bind_some, h2, e]
    · have e : i + (x :: ds).length = i + 1 + ds.length := by rw [List.length_cons]; omega
      rw [e]; exact hI
theorem bools_map {α : Type} (p : α → Bool) : ∀ xs : List α, bools? (xs.map fun x => PyData.bool (p x)) = some (xs.map p)
  | [] => rfl
  | x :: xs => by
    simp only [List.map_cons, bools?, bools_map p xs, Option.map_some]
theorem gAll_map {α : Type} (p : α → Bool) (xs : List α) : gAll (.list (xs.map fun x => PyData.bool (p x))) = some (.bool (xs.all p)) := by
  simp only [gAll, bools_map, Option.map_some, List.all_map]
  rfl
theorem ints_map : ∀ ns : List Int, ints? (ns.map PyData.int) = some ns
  | [] => rfl
  | n :: ns => by simp only [List.map_cons, ints?, ints_map ns, Option.map_some]

theorem cutD_from (xs : List PyData) (k : Nat) : cutD xs (some (k : Int)) none = xs.drop k := by
  unfold cutD
  rw [HT.sIx_nat, HT.sIx_none]
  by_cases h : k ≤ xs.length
  · rw [Nat.min_eq_left h, List.take_of_length_le (by rw [List.length_drop]; omega)]
  · rw [Nat.min_eq_right (by omega), Nat.sub_self, List.take_zero, List.drop_eq_nil_of_le (by omega)]
theorem cutD_to (xs : List PyData) (k : Nat) : cutD xs none (some (k : Int)) = xs.take k := by
  unfold cutD
  rw [HT.sIx_nat, HT.sIx_none, List.drop_zero, Nat.sub_zero]
  by_cases h : k ≤ xs.length
  · rw [Nat.min_eq_left h]
  · rw [Nat.min_eq_right (by omega), List.take_length, List.take_of_length_le (by omega)]
theorem atI_nat {α : Type} (xs : List α) (k : Nat) : atI xs (k : Int) = xs[k]? := by
  unfold atI ixN
  rw [if_pos (by omega)]
  by_cases h : k < xs.length
  · rw [if_pos (by omega)]; rfl
  · rw [if_neg (by omega), List.getElem?_eq_none (by omega)]; rfl
theorem atI_0 {α : Type} (xs : List α) : atI xs 0 = xs[0]? := atI_nat xs 0
theorem atI_1 {α : Type} (xs : List α) : atI xs 1 = xs[1]? := atI_nat xs 1
theorem atI_2 {α : Type} (xs : List α) : atI xs 2 = xs[2]? := atI_nat xs 2
theorem atI_3 {α : Type} (xs : List α) : atI xs 3 = xs[3]? := atI_nat xs 3
theorem atI_4 {α : Type} (xs : List α) : atI xs 4 = xs[4]? := atI_nat xs 4

/-! #### rising rows -/
def riseI : List Int → Bool
  | [] => true
  | [_] => true
  | a :: b :: r => decide (a < b) && riseI (b :: r)
theorem riseI_zip : ∀ ns : List Int, (ns.zip (ns.drop 1)).all (fun p => decide (p.1 < p.2)) = riseI ns
  | [] => rfl
  | [_] => rfl
  | a :: b :: r => by
    have ih := riseI_zip (b :: r)
    simp only [List.drop_succ_cons, List.drop_zero, List.zip_cons_cons, List.all_cons, riseI] at ih ⊢
    rw [ih]
theorem riseI_lt : ∀ ns : List Int, riseI ns = true ↔ ns.Pairwise (· < ·)
  | [] => by simp [riseI]
  | [_] => by simp [riseI]
  | a :: b :: r => by
    have ih := riseI_lt (b :: r)
    simp only [riseI, Bool.and_eq_true, decide_eq_true_eq, ih]
    constructor
    · rintro ⟨h1, h2⟩
      refine List.pairwise_cons.mpr ⟨fun c hc => ?_, h2⟩
      rcases List.mem_cons.mp hc with e | hc
      · rw [e]; exact h1
      · exact Int.lt_trans h1 ((List.pairwise_cons.mp h2).1 c hc)
    · intro h
      obtain ⟨h1, h2⟩ := List.pairwise_cons.mp h
      exact ⟨h1 b List.mem_cons_self, h2⟩
theorem rise_srtU (ns : List Int) : decide (ns = srtU ns) = riseI ns := by
  rw [Bool.eq_iff_iff, decide_eq_true_eq, riseI_lt]
  constructor
  · intro h; rw [h]; exact srtU_lt ns
  · intro h; exact lt_eq (fun z => (srtU_mem z ns).symm) h (srtU_lt ns)
theorem allIn_ints {a b : Int} : ∀ {xs : List PyData}, xs.all (dIn a b) = true → ∃ ns : List Int, xs = ns.map PyData.int ∧ ∀ n ∈ ns, a ≤ n ∧ n ≤ b
  | [], _ => ⟨[], rfl, fun _ h => nomatch h⟩
  | x :: xs, h => by
    rw [List.all_cons, Bool.and_eq_true] at h
    obtain ⟨ns, rfl, q⟩ := allIn_ints h.2
    cases x with
    | int i =>
      have h1 := h.1
      simp only [dIn, Bool.and_eq_true, decide_eq_true_eq] at h1
      exact ⟨i :: ns, rfl, fun n hn => (List.mem_cons.mp hn).elim (fun e => by rw [e]; exact h1) (q n)⟩
    | _ => exact absurd h.1 (by simp [dIn])
theorem canLay_ints : ∀ ns : List Int, PyData.canLayAll0 (ns.map PyData.int) = true
  | [] => rfl
  | n :: ns => by simp only [List.map_cons, PyData.canLayAll0, PyData.canLay0, canLay_ints ns, Bool.and_self]
theorem depth_ints : ∀ ns : List Int, PyData.depthAll (ns.map PyData.int) = 0
  | [] => rfl
  | n :: ns => by simp only [List.map_cons, PyData.depthAll, PyData.depth, depth_ints ns, Nat.max_self]
theorem shaped_ints (ns : List Int) : SeqAt.shaped (.list (ns.map PyData.int)) = true := by
  simp only [SeqAt.shaped, PyData.canLay0, canLay_ints, PyData.depth, depth_ints, Bool.true_and, decide_eq_true_eq]
  omega
theorem shapedT_ints (ns : List Int) : SeqAt.shaped (.tuple (ns.map PyData.int)) = true := by
  simp only [SeqAt.shaped, PyData.canLay0, canLay_ints, PyData.depth, depth_ints, Bool.true_and, decide_eq_true_eq]
  omega

theorem eqvAll_ints : ∀ a b : List Int, PyData.eqvAll (a.map PyData.int) (b.map PyData.int) = decide (a = b)
  | [], [] => rfl
  | [], _ :: _ => rfl
  | _ :: _, [] => rfl
  | x :: a, y :: b => by
    have e : PyData.eqv (.int x) (.int y) = decide (x = y) := by
      rw [PyData.eqv, Bool.eq_iff_iff]; simp
    simp only [List.map_cons, PyData.eqvAll, e, eqvAll_ints a b, List.cons.injEq, Bool.decide_and]
theorem gEq_ints (neg : Bool) (a b : List Int) : gEq neg (.list (a.map PyData.int)) (.list (b.map PyData.int)) = some (.bool (if neg = true then !decide (a = b) else decide (a = b))) := by
  simp only [gEq, shaped_ints, and_self, if_true, PyData.eqv, eqvAll_ints]

/-! #### texts -/
theorem strLen (z : Str) : z.length = z.cps.toList.length := by
  show z.cps.size = _
  rw [Array.length_toList]
theorem canLay_signs : ∀ xs : List PyData, (∀ x ∈ xs, ∃ s : Str, x = .str s ∧ PyData.strOk s = true) → PyData.canLayAll0 xs = true ∧ PyData.depthAll xs = 0
  | [], _ => ⟨rfl, rfl⟩
  | x :: xs, h => by
    obtain ⟨s, rfl, hs⟩ := h x List.mem_cons_self
    obtain ⟨h1, h2⟩ := canLay_signs xs fun y hy => h y (List.mem_cons_of_mem _ hy)
    exact ⟨by simp only [PyData.canLayAll0, PyData.canLay0, hs, h1, Bool.and_self], by simp only [PyData.depthAll, PyData.depth, h2, Nat.max_self]⟩
theorem sign_ok {z : Str} (h : PyData.strOk z = true) : ∀ x ∈ signs z, ∃ s : Str, x = .str s ∧ PyData.strOk s = true := fun x hx => by
  unfold signs at hx
  obtain ⟨c, hc, rfl⟩ := List.mem_map.mp hx
  refine ⟨_, rfl, ?_⟩
  have h0 : z.cps.all (· < 0x110000) = true := h
  have := (Array.all_eq_true_iff_forall_mem.mp h0) c (Array.mem_toList_iff.mp hc)
  simpa [PyData.strOk] using this
theorem gEq_nil {xs : List PyData} (h1 : PyData.canLayAll0 xs = true) (h2 : PyData.depthAll xs = 0) (neg : Bool) : gEq neg (.list xs) (.list []) = some (.bool (if neg = true then !xs.isEmpty else xs.isEmpty)) := by
  have s1 : SeqAt.shaped (.list xs) = true := by
    simp only [SeqAt.shaped, PyData.canLay0, h1, PyData.depth, h2, Bool.true_and, decide_eq_true_eq]
    omega
  have s2 : SeqAt.shaped (.list []) = true := by decide +kernel
  have e : PyData.eqv (.list xs) (.list []) = xs.isEmpty := by
    cases xs <;> simp [PyData.eqv, PyData.eqvAll]
  simp only [gEq, s1, s2, and_self, if_true, e]
theorem filter_not_all {α : Type} (p : α → Bool) : ∀ xs : List α, (xs.filter fun x => !p x).isEmpty = xs.all p
  | [] => rfl
  | x :: xs => by
    have ih := filter_not_all p xs
    cases h : p x <;> simp_all

theorem forM_first {t : MG} {g : MS} {π : Pt} (I : Ev → Prop) (ok : PyData → Bool) (r : PyData → PyData) : ∀ (ds : List PyData) (ρ : Ev), I ρ →
    (∀ x ∈ ds, ∀ ρ, I ρ → ∃ ρ1, t x ρ = some ρ1 ∧ (ok x = true → ∃ ρ2, g ρ1 π = some (.nx ρ2, π) ∧ I ρ2) ∧ (ok x = false → g ρ1 π = some (.rt (r x), π))) →
    (ds.find? (fun x => !ok x) = none → ∃ ρ', forM t g ds ρ π = some (.nx ρ', π) ∧ I ρ') ∧ ∀ x, ds.find? (fun x => !ok x) = some x → forM t g ds ρ π = some (.rt (r x), π)
  | [], ρ, hi, _ => ⟨fun _ => ⟨ρ, rfl, hi⟩, fun x h => nomatch h⟩
  | y :: ds, ρ, hi, h => by
    obtain ⟨ρ1, h1, h2, h3⟩ := h y List.mem_cons_self ρ hi
    cases hok : ok y with
    | true =>
      obtain ⟨ρ2, h4, h5⟩ := h2 hok
      obtain ⟨q1, q2⟩ := forM_first (t := t) (g := g) I ok r ds ρ2 h5 fun x hx => h x (List.mem_cons_of_mem _ hx)
      have e : forM t g (y :: ds) ρ π = forM t g ds ρ2 π := by
        conv => lhs; unfold forM
        rw [h1]
        simp only [Option.bind_some, h4]
      rw [e, List.find?_cons, hok]
      exact ⟨q1, q2⟩
    | false =>
      have e : forM t g (y :: ds) ρ π = some (.rt (r y), π) := by
        conv => lhs; unfold forM
        rw [h1]
        simp only [Option.bind_some, h3 hok]
      rw [e, List.find?_cons, hok]
      exact ⟨(fun z => by have z' : some y = none := z; cases z'), (fun x z => by have z' : some y = some x := z; cases z'; rfl)⟩
theorem canLay_flat : ∀ xs : List PyData, (∀ x ∈ xs, ∃ i : Int, x = .int i) → PyData.canLayAll0 xs = true ∧ PyData.depthAll xs = 0
  | [], _ => ⟨rfl, rfl⟩
  | x :: xs, h => by
    obtain ⟨s, rfl⟩ := h x List.mem_cons_self
    obtain ⟨h1, h2⟩ := canLay_flat xs fun y hy => h y (List.mem_cons_of_mem _ hy)
    exact ⟨by simp only [PyData.canLayAll0, PyData.canLay0, h1, Bool.and_self], by simp only [PyData.depthAll, PyData.depth, h2, Nat.max_self]⟩
theorem numb_mem {ds : List PyData} {x : PyData} (h : x ∈ numb ds) : ∃ (i : Nat) (y : PyData), x = .tuple [.int (i : Int), y] ∧ y ∈ ds ∧ i < ds.length := by
  unfold numb at h
  obtain ⟨⟨y, i⟩, hm, rfl⟩ := List.mem_map.mp h
  obtain ⟨h1, h2⟩ := List.mem_zipIdx' hm
  exact ⟨i, y, rfl, by rw [h2]; exact List.getElem_mem _, h1⟩
theorem numb_all (p : PyData → Bool) (q : PyData → Bool) (h : ∀ (i : Int) y, q (.tuple [.int i, y]) = p y) (ds : List PyData) : (numb ds).all q = ds.all p := by
  unfold numb
  rw [List.all_map]
  have e : ∀ k, (ds.zipIdx k).all (q ∘ fun p => PyData.tuple [PyData.int (p.2 : Int), p.1]) = ds.all p := by
    induction ds with
    | nil => intro k; rfl
    | cons d ds ih =>
      intro k
      rw [List.zipIdx_cons, List.all_cons, List.all_cons, ih]
      show (q (.tuple [.int _, d]) && _) = _
      rw [h]
  exact e 0
theorem find_none_all {α : Type} (p : α → Bool) : ∀ xs : List α, (xs.find? fun x => !p x) = none ↔ xs.all p = true
  | [] => by simp
  | x :: xs => by
    have ih := find_none_all p xs
    cases h : p x <;> simp_all
end DL

set_option maxHeartbeats 2000000
namespace DL
open PySem L2
set_option autoImplicit false
mutual
/-- lengths of rows at most m, whole numbers between -b and b, texts of at most c signs -/
def vb (m : Nat) (b : Int) (c : Nat) : PyData → Bool
  | .none => true
  | .bool _ => true
  | .int i => decide (-b ≤ i) && decide (i ≤ b)
  | .str z => PyData.strOk z && decide (z.length ≤ c)
  | .list xs => decide (xs.length ≤ m) && vbs m b c xs
  | .tuple xs => decide (xs.length ≤ m) && vbs m b c xs
  | .dict kvs => kvs.isEmpty
def vbs (m : Nat) (b : Int) (c : Nat) : List PyData → Bool
  | [] => true
  | x :: xs => vb m b c x && vbs m b c xs
end
theorem vbs_iff (m : Nat) (b : Int) (c : Nat) : ∀ xs : List PyData, vbs m b c xs = true ↔ ∀ x ∈ xs, vb m b c x = true
  | [] => by simp [vbs]
  | x :: xs => by simp [vbs, vbs_iff m b c xs]
section
variable {m m' : Nat} {b b' : Int} {c c' : Nat}
theorem vb_tup {xs : List PyData} : vb m b c (.tuple xs) = true ↔ xs.length ≤ m ∧ ∀ x ∈ xs, vb m b c x = true := by
  simp only [vb, Bool.and_eq_true, decide_eq_true_eq, vbs_iff]
theorem vb_lst {xs : List PyData} : vb m b c (.list xs) = true ↔ xs.length ≤ m ∧ ∀ x ∈ xs, vb m b c x = true := by
  simp only [vb, Bool.and_eq_true, decide_eq_true_eq, vbs_iff]
theorem vb_int {i : Int} : vb m b c (.int i) = true ↔ -b ≤ i ∧ i ≤ b := by
  simp only [vb, Bool.and_eq_true, decide_eq_true_eq]
theorem vb_str {z : Str} : vb m b c (.str z) = true ↔ PyData.strOk z = true ∧ z.length ≤ c := by
  simp only [vb, Bool.and_eq_true, decide_eq_true_eq]
mutual
theorem vb_mono (hm : m ≤ m') (hb : b ≤ b') (hc : c ≤ c') : ∀ d : PyData, vb m b c d = true → vb m' b' c' d = true
  | .none, _ => rfl
  | .bool _, _ => rfl
  | .int i, h => by
    rw [vb_int] at h ⊢
    omega
  | .str z, h => by
    rw [vb_str] at h ⊢
    exact ⟨h.1, Nat.le_trans h.2 hc⟩
  | .list xs, h => by
    simp only [vb, Bool.and_eq_true, decide_eq_true_eq] at h ⊢
    exact ⟨Nat.le_trans h.1 hm, vbs_mono hm hb hc xs h.2⟩
  | .tuple xs, h => by
    simp only [vb, Bool.and_eq_true, decide_eq_true_eq] at h ⊢
    exact ⟨Nat.le_trans h.1 hm, vbs_mono hm hb hc xs h.2⟩
  | .dict kvs, h => by
    simp only [vb] at h ⊢
    exact h
theorem vbs_mono (hm : m ≤ m') (hb : b ≤ b') (hc : c ≤ c') : ∀ ds : List PyData, vbs m b c ds = true → vbs m' b' c' ds = true
  | [], _ => rfl
  | x :: xs, h => by
    simp only [vbs, Bool.and_eq_true] at h ⊢
    exact ⟨vb_mono hm hb hc x h.1, vbs_mono hm hb hc xs h.2⟩
end
theorem intShort {i : Int} (h1 : -(10 ^ 20 + 10) ≤ i) (h2 : i ≤ 10 ^ 20 + 10) : (PyData.shown (.int i)).length ≤ 22 := by
  have h : i.natAbs < 10 ^ 21 := by
    have e : (10 : Int) ^ 20 = 100000000000000000000 := by decide
    have e2 : (10 : Nat) ^ 21 = 1000000000000000000000 := by decide
    rw [e] at h1 h2
    rw [e2]
    omega
  have h3 := int_text_length_le10 (by decide) h
  show (Str.ofString (toString i)).length ≤ 22
  rw [ofString_length]
  exact h3
theorem intLog {i : Int} (h1 : -(10 ^ 20 + 10) ≤ i) (h2 : i ≤ 10 ^ 20 + 10) : i.natAbs.log2 < 1920 := by
  have h : i.natAbs < 2 ^ 1920 := by
    have e : (10 : Int) ^ 20 = 100000000000000000000 := by decide
    have e2 : i.natAbs < 2 ^ 100 := by
      have e3 : (2 : Nat) ^ 100 = 1267650600228229401496703205376 := by decide
      rw [e] at h1 h2
      rw [e3]
      omega
    exact Nat.lt_of_lt_of_le e2 (Nat.pow_le_pow_right (by decide) (by decide))
  by_cases h0 : i.natAbs = 0
  · rw [h0]; decide
  · exact (Nat.log2_lt h0).mpr h
mutual
theorem vb_show (hb : b ≤ 10 ^ 20 + 10) : ∀ d : PyData, vb m b c d = true → d.showable = true ∧ d.leavesShort 22 = true
  | .none, _ => ⟨rfl, rfl⟩
  | .bool _, _ => ⟨rfl, rfl⟩
  | .int i, h => by
    rw [vb_int] at h
    refine ⟨?_, ?_⟩
    · simp only [PyData.showable, decide_eq_true_eq]
      exact intLog (by omega) (by omega)
    · simp only [PyData.leavesShort, decide_eq_true_eq]
      exact intShort (by omega) (by omega)
  | .str z, h => by
    rw [vb_str] at h
    refine ⟨rfl, ?_⟩
    simp only [PyData.leavesShort, List.all_eq_true, decide_eq_true_eq]
    intro x hx
    have h0 : z.cps.all (· < 0x110000) = true := h.1
    have := (Array.all_eq_true_iff_forall_mem.mp h0) x (Array.mem_toList_iff.mp hx)
    simp only [decide_eq_true_eq] at this
    omega
  | .list xs, h => by
    simp only [vb, Bool.and_eq_true, decide_eq_true_eq] at h
    obtain ⟨h1, h2⟩ := vbs_show hb xs h.2
    exact ⟨by simp only [PyData.showable, h1], by simp only [PyData.leavesShort, h2]⟩
  | .tuple xs, h => by
    simp only [vb, Bool.and_eq_true, decide_eq_true_eq] at h
    obtain ⟨h1, h2⟩ := vbs_show hb xs h.2
    exact ⟨by simp only [PyData.showable, h1], by simp only [PyData.leavesShort, h2]⟩
  | .dict [], _ => ⟨rfl, rfl⟩
  | .dict (_ :: _), h => by simp [vb] at h
theorem vbs_show (hb : b ≤ 10 ^ 20 + 10) : ∀ ds : List PyData, vbs m b c ds = true → PyData.showableAll ds = true ∧ PyData.leavesShortAll 22 ds = true
  | [], _ => ⟨rfl, rfl⟩
  | x :: xs, h => by
    simp only [vbs, Bool.and_eq_true] at h
    obtain ⟨h1, h2⟩ := vb_show hb x h.1
    obtain ⟨h3, h4⟩ := vbs_show hb xs h.2
    exact ⟨by simp only [PyData.showableAll, h1, h3, Bool.and_self], by simp only [PyData.leavesShortAll, h2, h4, Bool.and_self]⟩
end
theorem gRepr_some {d : PyData} (hb : b ≤ 10 ^ 20 + 10) (h : vb m b c d = true) (hw : d.weight ≤ 600000) (hd : d.depth ≤ 60) : gRepr d = some (.str d.shown) := by
  obtain ⟨h1, h2⟩ := vb_show hb d h
  have h3 := PyData.shown_le 22 (by decide) d h2
  have h4 : d.shown.length ≤ sizeLine := by
    rw [sizeLine_eq]
    have : (22 + 2) * d.weight ≤ (22 + 2) * 600000 := Nat.mul_le_mul_left _ hw
    omega
  simp only [gRepr, h1, hd, h4, and_self, if_true]
end
theorem weightAll_append : ∀ xs ys : List PyData, PyData.weightAll (xs ++ ys) = PyData.weightAll xs + PyData.weightAll ys
  | [], ys => by simp [PyData.weightAll]
  | x :: xs, ys => by simp only [List.cons_append, PyData.weightAll, weightAll_append xs ys]; omega
theorem depthAll_append : ∀ xs ys : List PyData, PyData.depthAll (xs ++ ys) = max (PyData.depthAll xs) (PyData.depthAll ys)
  | [], ys => by simp [PyData.depthAll]
  | x :: xs, ys => by simp only [List.cons_append, PyData.depthAll, depthAll_append xs ys]; omega
theorem weight_le {W : Nat} : ∀ xs : List PyData, (∀ x ∈ xs, x.weight ≤ W) → PyData.weightAll xs ≤ xs.length * (W + 1)
  | [], _ => by simp [PyData.weightAll]
  | x :: xs, h => by
    have h1 := h x List.mem_cons_self
    have h2 := weight_le xs fun y hy => h y (List.mem_cons_of_mem _ hy)
    simp only [PyData.weightAll, List.length_cons, Nat.succ_mul]
    omega
theorem depth_le {D : Nat} : ∀ xs : List PyData, (∀ x ∈ xs, x.depth ≤ D) → PyData.depthAll xs ≤ D
  | [], _ => by simp [PyData.depthAll]
  | x :: xs, h => by
    have h1 := h x List.mem_cons_self
    have h2 := depth_le xs fun y hy => h y (List.mem_cons_of_mem _ hy)
    simp only [PyData.depthAll]
    omega
theorem depth_mem : ∀ {xs : List PyData} {x : PyData}, x ∈ xs → x.depth ≤ PyData.depthAll xs
  | y :: ys, x, h => by
    simp only [PyData.depthAll]
    rcases List.mem_cons.mp h with e | e
    · subst e; omega
    · have := depth_mem e; omega
theorem weight_mem : ∀ {xs : List PyData} {x : PyData}, x ∈ xs → x.weight + 1 ≤ PyData.weightAll xs
  | y :: ys, x, h => by
    simp only [PyData.weightAll]
    rcases List.mem_cons.mp h with e | e
    · subst e; omega
    · have := weight_mem e; omega

theorem rng {n : Int} (h0 : -1000000 ≤ n) (h1 : n ≤ 1000000) : -(2 ^ 62) ≤ n ∧ n < 2 ^ 62 := by
  have e : (2 : Int) ^ 62 = 4611686018427387904 := by decide
  rw [e]; omega
theorem upTo_get {lo : Int} {n j : Nat} {x : PyData} (h : (upTo lo n)[j]? = some x) : x = .int (lo + (j : Int)) ∧ j < n := by
  unfold upTo at h
  rw [List.getElem?_map] at h
  by_cases hj : j < n
  · rw [List.getElem?_range hj] at h
    cases h
    exact ⟨rfl, hj⟩
  · rw [List.getElem?_eq_none (by rw [List.length_range]; omega)] at h
    cases h
theorem upTo_mem {lo : Int} {n : Nat} {x : PyData} (h : x ∈ upTo lo n) : ∃ j : Nat, x = .int (lo + (j : Int)) ∧ j < n := by
  obtain ⟨j, hj⟩ := List.mem_iff_getElem?.mp h
  exact ⟨j, upTo_get hj⟩
theorem inD_ints (d : Int) : ∀ ns : List Int, inD (.int d) (ns.map PyData.int) = decide (d ∈ ns)
  | [] => by simp [inD, inV]
  | n :: ns => by
    have ih := inD_ints d ns
    unfold inD inV at ih ⊢
    rw [List.map_cons, List.map_cons, List.any_cons, ih]
    have e : eqV (vOf (.int n)) (vOf (.int d)) = decide (d = n) := by
      simp only [vOf, eqV]
      by_cases h : d = n
      · subst h; simp
      · have h' : ¬ n = d := fun z => h z.symm
        simp [h, h']
    rw [e, Bool.eq_iff_iff]
    simp
theorem flat_ints (ns : List Int) : (ns.map PyData.int).all flatD = true := by
  rw [List.all_eq_true]
  intro x hx
  obtain ⟨n, _, rfl⟩ := List.mem_map.mp hx
  rfl
theorem gIn_ints (neg : Bool) (d : Int) (ns : List Int) : gIn neg (.int d) (.list (ns.map PyData.int)) = some (.bool (if neg = true then !decide (d ∈ ns) else decide (d ∈ ns))) := by
  have e : flatD (.int d) = true := rfl
  simp only [gIn, e, flat_ints, and_self, if_true, inD_ints]
theorem sorted_lt {l : List Int} (h : l.Pairwise (· ≤ ·)) (n : l.Nodup) : l.Pairwise (· < ·) := by
  induction l with
  | nil => exact List.Pairwise.nil
  | cons x l ih =>
    obtain ⟨h1, h2⟩ := List.pairwise_cons.mp h
    obtain ⟨n1, n2⟩ := List.nodup_cons.mp n
    refine List.pairwise_cons.mpr ⟨fun y hy => ?_, ih h2 n2⟩
    have a := h1 y hy
    have b : x ≠ y := fun z => n1 (by rw [z]; exact hy)
    omega

theorem atI_pos {α : Type} (xs : List α) {d : Int} (h : 0 ≤ d) : atI xs d = xs[d.toNat]? := by
  rw [← atI_nat]
  congr 1
  omega

theorem fLc_ex {own : List Nat} {t : MG} {b : MT} {f : MX} {ρ : Ev} {it : ML} {ds : List PyData} {π π1 : Pt} (P : PyData → Prop) (hi : it ρ π = some (ds, π1)) (hl : ds.length ≤ sizeLine)
    (h : ∀ x ∈ ds, ∀ π, ∃ ρ1 π1 y π2, t x (wipeE ρ own) = some ρ1 ∧ b ρ1 π = some (true, π1) ∧ f ρ1 π1 = some (y, π2) ∧ P y) : ∃ ys π', fLc it own t b f ρ π = some (ys, π') ∧ ys.length = ds.length ∧ ∀ y ∈ ys, P y := by
  obtain ⟨ys, π', e, h1, h2⟩ := lcM_ex (own := own) (t := t) (b := b) (f := f) (ρ := ρ) P ds π1 h
  refine ⟨ys, π', ?_, h1, h2⟩
  unfold fLc
  rw [hi]
  simp only [Option.bind_some, hl, if_true]
  exact e
theorem len_line {α : Type} {xs : List α} (h : xs.length ≤ 1000000) : xs.length ≤ sizeLine := by rw [sizeLine_eq]; omega
theorem lt_line1 {n : Nat} (h : n ≤ 1000000) : (n < sizeLine) = True := eq_true (by rw [sizeLine_eq]; omega)

theorem cutD_toI (xs : List PyData) {k : Int} (h : 0 ≤ k) : cutD xs none (some k) = xs.take k.toNat := by
  have e : k = ((k.toNat : Nat) : Int) := by omega
  rw [e, cutD_to]
  rfl
theorem cutD_fromI (xs : List PyData) {k : Int} (h : 0 ≤ k) : cutD xs (some k) none = xs.drop k.toNat := by
  have e : k = ((k.toNat : Nat) : Int) := by omega
  rw [e, cutD_from]
  rfl
theorem gAdd_tup {xs ys : List PyData} (h : xs.length + ys.length ≤ 1000000) : gAdd (.tuple xs) (.tuple ys) = some (.tuple (xs ++ ys)) := by
  have e : xs.length + ys.length ≤ sizeLine := by rw [sizeLine_eq]; omega
  simp only [gAdd, e, if_true]
theorem weightAll_reverse : ∀ xs : List PyData, PyData.weightAll xs.reverse = PyData.weightAll xs
  | [] => rfl
  | x :: xs => by
    rw [List.reverse_cons, weightAll_append, weightAll_reverse xs]
    simp only [PyData.weightAll]
    omega
theorem weight_split (k : Nat) (xs : List PyData) : PyData.weightAll (xs.take k) + PyData.weightAll (xs.drop k) = PyData.weightAll xs := by
  rw [← weightAll_append, List.take_append_drop]
theorem wInt {i : Int} (h1 : -(10 ^ 20 + 10) ≤ i) (h2 : i ≤ 10 ^ 20 + 10) : (PyData.int i).weight ≤ 68 := by
  have h : i.natAbs < 2 ^ 67 := by
    have e : (10 : Int) ^ 20 = 100000000000000000000 := by decide
    have e3 : (2 : Nat) ^ 67 = 147573952589676412928 := by decide
    rw [e] at h1 h2
    rw [e3]
    omega
  simp only [PyData.weight]
  split
  · omega
  · rename_i h0
    have h0' : i.natAbs ≠ 0 := by
      intro z
      apply h0
      have : i = 0 := by omega
      rw [this]; rfl
    have := (Nat.log2_lt h0').mpr h
    omega

theorem gMul_rep {xs : List PyData} {k : Int} (h0 : xs ≠ []) (h1 : 2 ≤ k) (h2 : k ≤ 1000) (h3 : xs.length ≤ 1000) : gMul (.tuple xs) (.int k) = some (.tuple (List.replicate k.toNat xs).flatten) := by
  simp only [gMul, h0, h1, h2, h3, ne_eq, not_false_eq_true, and_self, if_true]
theorem rep_mem {xs : List PyData} {k : Nat} {x : PyData} (h : x ∈ (List.replicate k xs).flatten) : x ∈ xs := by
  obtain ⟨l, hl, hx⟩ := List.mem_flatten.mp h
  rw [(List.mem_replicate.mp hl).2] at hx
  exact hx
theorem rep_len (xs : List PyData) (k : Nat) : (List.replicate k xs).flatten.length = k * xs.length := by
  induction k with
  | zero => simp
  | succ k ih => rw [List.replicate_succ, List.flatten_cons, List.length_append, ih, Nat.succ_mul]; omega
/-- bounds, all in one -/
structure Bt (m : Nat) (b : Int) (c : Nat) (W D : Nat) (u : PyData) : Prop where
  v : vb m b c u = true
  w : u.weight ≤ W
  d : u.depth ≤ D
theorem Bt.mono {m m' : Nat} {b b' : Int} {c c' W W' D D' : Nat} {u : PyData} (h : Bt m b c W D u) (hm : m ≤ m') (hb : b ≤ b') (hc : c ≤ c') (hW : W ≤ W') (hD : D ≤ D') : Bt m' b' c' W' D' u :=
  ⟨vb_mono hm hb hc u h.v, Nat.le_trans h.w hW, Nat.le_trans h.d hD⟩
def btB (m : Nat) (b : Int) (c : Nat) (W D : Nat) (u : PyData) : Bool := vb m b c u && decide (u.weight ≤ W) && decide (u.depth ≤ D)
theorem btB_ok {m : Nat} {b : Int} {c W D : Nat} {u : PyData} (h : btB m b c W D u = true) : Bt m b c W D u := by
  simp only [btB, Bool.and_eq_true, decide_eq_true_eq] at h
  exact ⟨h.1.1, h.1.2, h.2⟩
theorem bt_tup {m : Nat} {b : Int} {c W D : Nat} {ys : List PyData} (h1 : ys.length ≤ m) (h2 : ∀ y ∈ ys, vb m b c y = true) (h3 : PyData.weightAll ys ≤ W) (h4 : PyData.depthAll ys + 1 ≤ D) : Bt m b c W D (.tuple ys) :=
  ⟨vb_tup.mpr ⟨h1, h2⟩, by simp only [PyData.weight]; exact h3, by simp only [PyData.depth]; exact h4⟩
theorem depth_sub {xs ys : List PyData} (h : ∀ y ∈ ys, y ∈ xs) : PyData.depthAll ys ≤ PyData.depthAll xs := depth_le ys fun y hy => depth_mem (h y hy)
/-- a tuple of bounded things -/
theorem Bt.tup {m : Nat} {b : Int} {c W D W' D' : Nat} {ys : List PyData} (h : ∀ y ∈ ys, Bt m b c W D y) (h1 : ys.length ≤ m) (hW : ys.length * (W + 1) ≤ W') (hD : D + 1 ≤ D') : Bt m b c W' D' (.tuple ys) :=
  bt_tup h1 (fun y hy => (h y hy).v) (Nat.le_trans (weight_le ys fun y hy => (h y hy).w) hW) (by have := depth_le ys fun y hy => (h y hy).d; omega)
theorem Bt.lst {m : Nat} {b : Int} {c W D W' D' : Nat} {ys : List PyData} (h : ∀ y ∈ ys, Bt m b c W D y) (h1 : ys.length ≤ m) (hW : ys.length * (W + 1) ≤ W') (hD : D + 1 ≤ D') : Bt m b c W' D' (.list ys) :=
  ⟨vb_lst.mpr ⟨h1, fun y hy => (h y hy).v⟩, by simp only [PyData.weight]; exact Nat.le_trans (weight_le ys fun y hy => (h y hy).w) hW, by
    simp only [PyData.depth]
    have := depth_le ys fun y hy => (h y hy).d
    omega⟩
theorem Bt.int {m : Nat} {b : Int} {c : Nat} {D : Nat} {i : Int} (h1 : -b ≤ i) (h2 : i ≤ b) (hb : b ≤ 10 ^ 20 + 10) : Bt m b c 68 D (.int i) :=
  ⟨vb_int.mpr ⟨h1, h2⟩, wInt (by omega) (by omega), by simp only [PyData.depth]; omega⟩
theorem Bt.repr {m : Nat} {b : Int} {c W D : Nat} {u : PyData} (h : Bt m b c W D u) (hb : b ≤ 10 ^ 20 + 10) (hW : W ≤ 600000) (hD : D ≤ 60) : gRepr u = some (.str u.shown) := gRepr_some hb h.v (by have := h.w; omega) (by have := h.d; omega)

theorem sSeq_nx {g h : MS} {ρ ρ1 : Ev} {π π1 : Pt} (e : g ρ π = some (.nx ρ1, π1)) : sSeq g h ρ π = h ρ1 π1 := by
  unfold sSeq
  rw [e]
  rfl
end DL

set_option maxHeartbeats 2000000
namespace DL
open PySem L2
set_option autoImplicit false
def caseA (Q : List PyData → Prop) : PyData → Prop
  | .list ds => Q ds
  | .tuple ds => Q ds
  | _ => False
def caseL (Q : List PyData → Prop) : PyData → Prop
  | .list ds => Q ds
  | _ => False
def caseT (Q : List PyData → Prop) : PyData → Prop
  | .tuple ds => Q ds
  | _ => False
def caseB (Q : Bool → Prop) : PyData → Prop
  | .bool b => Q b
  | _ => False
def caseI (Q : Int → Prop) : PyData → Prop
  | .int b => Q b
  | _ => False
def caseS (Q : Str → Prop) : PyData → Prop
  | .str b => Q b
  | _ => False
section
theorem caseA_l (Q : List PyData → Prop) (ds : List PyData) : caseA Q (.list ds) = Q ds := rfl
theorem caseA_t (Q : List PyData → Prop) (ds : List PyData) : caseA Q (.tuple ds) = Q ds := rfl
theorem caseL_l (Q : List PyData → Prop) (ds : List PyData) : caseL Q (.list ds) = Q ds := rfl
theorem caseT_t (Q : List PyData → Prop) (ds : List PyData) : caseT Q (.tuple ds) = Q ds := rfl
theorem caseB_b (Q : Bool → Prop) (b : Bool) : caseB Q (.bool b) = Q b := rfl
theorem caseI_i (Q : Int → Prop) (b : Int) : caseI Q (.int b) = Q b := rfl
theorem caseS_s (Q : Str → Prop) (b : Str) : caseS Q (.str b) = Q b := rfl
end
/-- o tells something of which Q holds -/
def wp {α : Type} (o : Option (α × Pt)) (Q : α → Pt → Prop) : Prop := ∃ a π, o = some (a, π) ∧ Q a π
section
variable {α β : Type} {Q Q' : α → Pt → Prop} {o : Option (α × Pt)}
theorem wp_some (a : α) (π : Pt) : wp (some (a, π)) Q = Q a π := by
  refine propext ⟨fun ⟨b, π', e, h⟩ => ?_, fun h => ⟨a, π, rfl, h⟩⟩
  cases e; exact h
theorem wp_bind (o : Option (β × Pt)) (f : β × Pt → Option (α × Pt)) : wp (o.bind f) Q = wp o fun b π => wp (f (b, π)) Q := by
  refine propext ⟨fun ⟨a, π, e, h⟩ => ?_, fun ⟨b, π, e, a, π', e2, h⟩ => ⟨a, π', by rw [e]; exact e2, h⟩⟩
  cases o with
  | none => cases e
  | some x => obtain ⟨b, π1⟩ := x; exact ⟨b, π1, rfl, a, π, e, h⟩
theorem wp_map (o : Option (β × Pt)) (f : β × Pt → α × Pt) : wp (o.map f) Q = wp o fun b π => Q (f (b, π)).1 (f (b, π)).2 := by
  refine propext ⟨fun ⟨a, π, e, h⟩ => ?_, fun ⟨b, π, e, h⟩ => ⟨_, _, by rw [e]; rfl, h⟩⟩
  cases o with
  | none => cases e
  | some x =>
    obtain ⟨b, π1⟩ := x
    have e : f (b, π1) = (a, π) := Option.some.inj e
    exact ⟨b, π1, rfl, by show Q (f (b, π1)).1 (f (b, π1)).2; rw [e]; exact h⟩
theorem wp_mono (h : wp o Q) (m : ∀ a π, Q a π → Q' a π) : wp o Q' := let ⟨a, π, e, q⟩ := h; ⟨a, π, e, m a π q⟩
theorem wp_of {a : α} {π : Pt} (e : o = some (a, π)) (h : Q a π) : wp o Q := ⟨a, π, e, h⟩
theorem wp_eq {a : α} {π : Pt} (h : wp o fun b π' => b = a ∧ π' = π) : o = some (a, π) := by
  obtain ⟨b, π', e, rfl, rfl⟩ := h; exact e
theorem wp_ex (h : wp o Q) : ∃ a π, o = some (a, π) ∧ Q a π := h
theorem wp_asRt (o : Option (Out × Pt)) (Q : PyData → Pt → Prop) : wp (asRt o) Q = wp o fun x π => match x with
    | .rt d => Q d π
    | .nx _ => Q .none π
    | _ => False := by
  refine propext ⟨fun ⟨a, π, e, h⟩ => ?_, fun ⟨b, π, e, h⟩ => ?_⟩
  · unfold asRt at e
    split at e
    · cases e; exact ⟨_, _, rfl, h⟩
    · cases e; exact ⟨_, _, rfl, h⟩
    · cases e
  · subst e
    cases b with
    | nx ρ => exact ⟨_, _, rfl, h⟩
    | rt d => exact ⟨_, _, rfl, h⟩
    | bk ρ => exact h.elim
    | ct ρ => exact h.elim
theorem wp_asB (o : Option (PyData × Pt)) (Q : Bool → Pt → Prop) : wp (asB o) Q = wp o fun x π => caseB (fun b => Q b π) x := by
  refine propext ⟨fun ⟨a, π, e, h⟩ => ⟨_, _, asB_some e, h⟩, fun ⟨b, π, e, h⟩ => ?_⟩
  subst e
  cases b with
  | bool b => exact ⟨_, _, rfl, (show Q b π from h)⟩
  | _ => exact h.elim
theorem wp_asL (o : Option (PyData × Pt)) (Q : List PyData → Pt → Prop) : wp (asL o) Q = wp o fun x π => caseL (fun b => Q b π) x := by
  refine propext ⟨fun ⟨a, π, e, h⟩ => ⟨_, _, asL_some e, h⟩, fun ⟨b, π, e, h⟩ => ?_⟩
  subst e
  cases b with
  | list b => exact ⟨_, _, rfl, (show Q b π from h)⟩
  | _ => exact h.elim
theorem wp_asT (o : Option (PyData × Pt)) (Q : List PyData → Pt → Prop) : wp (asT o) Q = wp o fun x π => caseT (fun b => Q b π) x := by
  refine propext ⟨fun ⟨a, π, e, h⟩ => ⟨_, _, asT_some e, h⟩, fun ⟨b, π, e, h⟩ => ?_⟩
  subst e
  cases b with
  | tuple b => exact ⟨_, _, rfl, (show Q b π from h)⟩
  | _ => exact h.elim
end
section
variable {f g : MX} {ρ : Ev} {π : Pt} {Q : List PyData → Pt → Prop}
theorem wp_iR1 (f : MX) (ρ : Ev) (π : Pt) (Q : List PyData → Pt → Prop) : wp (iR1 f ρ π) Q = wp (f ρ π) fun x π' => caseI (fun j => okR j = true ∧ Q (upTo 0 j.toNat) π') x := by
  unfold iR1
  refine propext ⟨fun ⟨a, π', e, h⟩ => ?_, fun ⟨b, π', e, h⟩ => ?_⟩
  · split at e
    · rename_i j π1 ef
      split at e
      · rename_i hj; cases e; exact ⟨_, _, ef, hj, h⟩
      · cases e
    · cases e
  · rw [e]
    cases b with
    | int j => exact ⟨_, _, if_pos h.1, h.2⟩
    | _ => exact h.elim
theorem wp_iA (f : MX) (ρ : Ev) (π : Pt) (Q : List PyData → Pt → Prop) : wp (iA f ρ π) Q = wp (f ρ π) fun x π' => caseA (fun ds => Q ds π') x := by
  unfold iA
  refine propext ⟨fun ⟨a, π', e, h⟩ => ?_, fun ⟨b, π', e, h⟩ => ?_⟩
  · split at e
    · rename_i ef; cases e; exact ⟨_, _, ef, h⟩
    · rename_i ef; cases e; exact ⟨_, _, ef, h⟩
    · cases e
  · rw [e]
    cases b with
    | list j => exact ⟨_, _, rfl, h⟩
    | tuple j => exact ⟨_, _, rfl, h⟩
    | _ => exact h.elim
theorem wp_iE (f : MX) (ρ : Ev) (π : Pt) (Q : List PyData → Pt → Prop) : wp (iE f ρ π) Q = wp (f ρ π) fun x π' => caseA (fun ds => Q (numb ds) π') x := by
  unfold iE
  refine propext ⟨fun ⟨a, π', e, h⟩ => ?_, fun ⟨b, π', e, h⟩ => ?_⟩
  · split at e
    · rename_i ef; cases e; exact ⟨_, _, ef, h⟩
    · rename_i ef; cases e; exact ⟨_, _, ef, h⟩
    · cases e
  · rw [e]
    cases b with
    | list j => exact ⟨_, _, rfl, h⟩
    | tuple j => exact ⟨_, _, rfl, h⟩
    | _ => exact h.elim
theorem wp_iS (f : MX) (ρ : Ev) (π : Pt) (Q : List PyData → Pt → Prop) : wp (iS f ρ π) Q = wp (f ρ π) fun x π' => caseS (fun ds => Q (signs ds) π') x := by
  unfold iS
  refine propext ⟨fun ⟨a, π', e, h⟩ => ?_, fun ⟨b, π', e, h⟩ => ?_⟩
  · split at e
    · rename_i ef; cases e; exact ⟨_, _, ef, h⟩
    · cases e
  · rw [e]
    cases b with
    | str j => exact ⟨_, _, rfl, h⟩
    | _ => exact h.elim
end

/-! #### loops -/
theorem wp_forM {t : MG} {g : MS} {Q : Out → Pt → Prop} (I : Nat → Ev → Pt → Prop) : ∀ (ds : List PyData) (i : Nat) (ρ : Ev) (π : Pt), I i ρ π →
    (∀ j x, ds[j]? = some x → ∀ ρ π, I (i + j) ρ π → ∃ ρ1, t x ρ = some ρ1 ∧ wp (g ρ1 π) fun o π' => match o with
      | .nx ρ2 => I (i + j + 1) ρ2 π'
      | .ct ρ2 => I (i + j + 1) ρ2 π'
      | .bk ρ2 => Q (.nx ρ2) π'
      | .rt d => Q (.rt d) π') → (∀ ρ' π', I (i + ds.length) ρ' π' → Q (.nx ρ') π') → wp (forM t g ds ρ π) Q
  | [], i, ρ, π, hi, _, hq => ⟨_, _, rfl, hq ρ π hi⟩
  | x :: ds, i, ρ, π, hi, h, hq => by
    obtain ⟨ρ1, h1, o, π1, h2, h3⟩ := h 0 x rfl ρ π hi
    have nx : ∀ ρ2 π2, I (i + 1) ρ2 π2 → wp (forM t g ds ρ2 π2) Q := fun ρ2 π2 hI => by
      refine wp_forM I ds (i + 1) ρ2 π2 hI (fun j y hy ρ π hj => ?_) fun ρ' π' hl => hq ρ' π' ?_
      · have e1 : i + (j + 1) = i + 1 + j := by omega
        have q := h (j + 1) y (by simpa using hy) ρ π (by rw [e1]; exact hj)
        rw [e1] at q
        exact q
      · have e : i + (x :: ds).length = i + 1 + ds.length := by rw [List.length_cons]; omega
        rw [e]; exact hl
    unfold forM
    rw [h1]
    simp only [Option.bind_some, h2]
    cases o with
    | nx ρ2 => exact nx ρ2 π1 h3
    | ct ρ2 => exact nx ρ2 π1 h3
    | bk ρ2 => exact ⟨_, _, rfl, h3⟩
    | rt d => exact ⟨_, _, rfl, h3⟩
/-- a loop of which only a statement about the slots is kept -/
theorem wp_for {t : MG} {g : MS} {Q : Out → Pt → Prop} {ds : List PyData} {ρ : Ev} {π : Pt} (I : Nat → Ev → Pt → Prop) (h0 : I 0 ρ π)
    (h : ∀ j x, ds[j]? = some x → ∀ ρ π, I j ρ π → ∃ ρ1, t x ρ = some ρ1 ∧ wp (g ρ1 π) fun o π' => match o with
      | .nx ρ2 => I (j + 1) ρ2 π'
      | .ct ρ2 => I (j + 1) ρ2 π'
      | .bk ρ2 => Q (.nx ρ2) π'
      | .rt d => Q (.rt d) π') (hq : ∀ ρ' π', I ds.length ρ' π' → Q (.nx ρ') π') : wp (forM t g ds ρ π) Q :=
  wp_forM I ds 0 ρ π h0 (fun j x hx ρ π hI => by rw [Nat.zero_add] at hI ⊢; exact h j x hx ρ π hI) (by rw [Nat.zero_add]; exact hq)
theorem wp_lc {own : List Nat} {t : MG} {b : MT} {f : MX} {ρ : Ev} (P : PyData → Prop) : ∀ {ds : List PyData} {π : Pt} {Q : List PyData → Pt → Prop},
    (∀ x ∈ ds, ∀ π, ∃ ρ1, t x (wipeE ρ own) = some ρ1 ∧ wp (b ρ1 π) fun k π1 => k = true → wp (f ρ1 π1) fun y _ => P y) →
    (∀ ys π', ys.length ≤ ds.length → (∀ y ∈ ys, P y) → Q ys π') → wp (lcM own t b f ρ ds π) Q
  | [], π, Q, _, hq => ⟨[], π, rfl, hq [] π (Nat.le_refl _) fun _ h => nomatch h⟩
  | x :: ds, π, Q, h, hq => by
    obtain ⟨ρ1, h1, k, π1, h2, h3⟩ := h x List.mem_cons_self π
    unfold lcM
    rw [h1]
    simp only [Option.bind_some, h2]
    cases k with
    | true =>
      obtain ⟨y, π2, h4, h5⟩ := h3 rfl
      simp only [if_true, h4, Option.bind_some]
      rw [wp_map]
      refine wp_lc P (fun z hz => h z (List.mem_cons_of_mem _ hz)) fun ys π' hl hp => hq (y :: ys) π' (by simpa using hl) fun z hz => ?_
      rcases List.mem_cons.mp hz with e | e
      · rw [e]; exact h5
      · exact hp z e
    | false =>
      simp only [Bool.false_eq_true, if_false]
      exact wp_lc P (fun z hz => h z (List.mem_cons_of_mem _ hz)) fun ys π' hl hp => hq ys π' (by rw [List.length_cons]; omega) hp
/-- the same, one of each -/
theorem wp_lcY {own : List Nat} {t : MG} {f : MX} {ρ : Ev} (P : PyData → Prop) : ∀ {ds : List PyData} {π : Pt} {Q : List PyData → Pt → Prop},
    (∀ x ∈ ds, ∀ π, ∃ ρ1, t x (wipeE ρ own) = some ρ1 ∧ wp (f ρ1 π) fun y _ => P y) →
    (∀ ys π', ys.length = ds.length → (∀ y ∈ ys, P y) → Q ys π') → wp (lcM own t (fun _ π => some (true, π)) f ρ ds π) Q
  | [], π, Q, _, hq => ⟨[], π, rfl, hq [] π rfl fun _ h => nomatch h⟩
  | x :: ds, π, Q, h, hq => by
    obtain ⟨ρ1, h1, y, π2, h4, h5⟩ := h x List.mem_cons_self π
    unfold lcM
    rw [h1]
    simp only [Option.bind_some, if_true, h4]
    rw [wp_map]
    refine wp_lcY P (fun z hz => h z (List.mem_cons_of_mem _ hz)) fun ys π' hl hp => hq (y :: ys) π' (by simpa using hl) fun z hz => ?_
    rcases List.mem_cons.mp hz with e | e
    · rw [e]; exact h5
    · exact hp z e
theorem wp_fLc (it : ML) (own : List Nat) (t : MG) (b : MT) (f : MX) (ρ : Ev) (π : Pt) (Q : List PyData → Pt → Prop) : wp (fLc it own t b f ρ π) Q = wp (it ρ π) fun ds π1 => ds.length ≤ sizeLine ∧ wp (lcM own t b f ρ ds π1) Q := by
  unfold fLc
  rw [wp_bind]
  congr 1
  funext ds π1
  refine propext ⟨fun h => ?_, fun h => ?_⟩
  · by_cases hl : ds.length ≤ sizeLine
    · simp only [hl, if_true] at h; exact ⟨hl, h⟩
    · simp only [hl, if_false] at h
      obtain ⟨_, _, e, _⟩ := h
      cases e
  · simp only [h.1, if_true]; exact h.2
theorem wp_iZ (f g : MX) (ρ : Ev) (π : Pt) (Q : List PyData → Pt → Prop) {xs ys : List PyData} {π1 π2 : Pt} (h : (f ρ π = some (.list xs, π1) ∧ g ρ π1 = some (.list ys, π2)) ∨ (f ρ π = some (.tuple xs, π1) ∧ g ρ π1 = some (.tuple ys, π2))) : wp (iZ f g ρ π) Q = Q (pairs xs ys) π2 := by
  unfold iZ
  rcases h with ⟨h1, h2⟩ | ⟨h1, h2⟩
  · rw [h1]; simp only [h2, asL, Option.map_some]; exact wp_some _ _
  · rw [h1]; simp only [h2, asT, Option.map_some]; exact wp_some _ _
theorem wp_iR2 (f g : MX) (ρ : Ev) (π : Pt) (Q : List PyData → Pt → Prop) : wp (iR2 f g ρ π) Q = wp (f ρ π) fun x π1 => caseI (fun i => wp (g ρ π1) fun y π2 => caseI (fun j => (okR i = true ∧ okR j = true) ∧ Q (upTo i (j - i).toNat) π2) y) x := by
  unfold iR2
  refine propext ⟨fun ⟨a, π', e, h⟩ => ?_, fun ⟨b, π', e, h⟩ => ?_⟩
  · split at e
    · rename_i i π1 ef
      split at e
      · rename_i j π2 eg
        split at e
        · rename_i hj; cases e; exact ⟨_, _, ef, _, _, eg, hj, h⟩
        · cases e
      · cases e
    · cases e
  · rw [e]
    cases b with
    | int i =>
      obtain ⟨y, π2, eg, h2⟩ := h
      simp only [eg]
      cases y with
      | int j => exact ⟨_, _, if_pos h2.1, h2.2⟩
      | _ => exact h2.elim
    | _ => exact h.elim
theorem asB_b (b : Bool) (π : Pt) : asB (some (.bool b, π)) = some (b, π) := rfl
theorem asL_l (b : List PyData) (π : Pt) : asL (some (.list b, π)) = some (b, π) := rfl
theorem asT_t (b : List PyData) (π : Pt) : asT (some (.tuple b, π)) = some (b, π) := rfl
theorem asRt_rt (d : PyData) (π : Pt) : asRt (some (.rt d, π)) = some (d, π) := rfl
theorem asRt_nx (ρ : Ev) (π : Pt) : asRt (some (.nx ρ, π)) = some (.none, π) := rfl
theorem noPot_of {ρ : Ev} {i : Nat} (h : ∀ j s, ρ[j]? = some s → j = i ∨ noP s = true) : noPot ρ i = true := by
  unfold noPot
  rw [List.all_eq_true]
  intro j hj
  have hl := List.mem_range.mp hj
  have e : ρ[j]? = some ρ[j] := List.getElem?_eq_getElem hl
  rcases h j ρ[j] e with z | z
  · simp [z]
  · rw [e]
    cases q : ρ[j] with
    | p => rw [q] at z; cases z
    | _ => simp
theorem gCatL_ok {xs ys : List PyData} (h : xs.length + ys.length ≤ 1000) : gCatL (.list xs) (.list ys) = some (xs ++ ys) := by
  have e : xs.length + ys.length ≤ sizeLine := by rw [sizeLine_eq]; omega
  simp only [gCatL, e, if_true]
theorem fIsi_ap (T : String) (f : MX) (ρ : Ev) (π : Pt) : fIsi T f ρ π = fU (gIsi T) f ρ π := rfl
end DL

set_option maxHeartbeats 2000000
namespace DL
open PySem L2
set_option autoImplicit false
abbrev B20 : Int := 100000000000000000000
theorem B20_eq : B20 = 10 ^ 20 := by decide
mutual
/-- small whole numbers, sound texts, no full dict -/
def okD : PyData → Bool
  | .none => true
  | .bool _ => true
  | .int i => decide (-B20 ≤ i) && decide (i ≤ B20)
  | .str z => PyData.strOk z
  | .list xs => okDs xs
  | .tuple xs => okDs xs
  | .dict kvs => kvs.isEmpty
def okDs : List PyData → Bool
  | [] => true
  | x :: xs => okD x && okDs xs
end
theorem okDs_iff : ∀ xs : List PyData, okDs xs = true ↔ ∀ x ∈ xs, okD x = true
  | [] => by simp [okDs]
  | x :: xs => by simp [okDs, okDs_iff xs]
mutual
theorem okD_show : ∀ d : PyData, okD d = true → d.showable = true ∧ d.leavesShort 22 = true
  | .none, _ => ⟨rfl, rfl⟩
  | .bool _, _ => ⟨rfl, rfl⟩
  | .int i, h => by
    simp only [okD, Bool.and_eq_true, decide_eq_true_eq] at h
    have e : (10 : Int) ^ 20 = B20 := by decide
    refine ⟨?_, ?_⟩
    · simp only [PyData.showable, decide_eq_true_eq]
      exact intLog (by omega) (by omega)
    · simp only [PyData.leavesShort, decide_eq_true_eq]
      exact intShort (by omega) (by omega)
  | .str z, h => by
    simp only [okD] at h
    refine ⟨rfl, ?_⟩
    simp only [PyData.leavesShort, List.all_eq_true, decide_eq_true_eq]
    intro x hx
    have h0 : z.cps.all (· < 0x110000) = true := h
    have := (Array.all_eq_true_iff_forall_mem.mp h0) x (Array.mem_toList_iff.mp hx)
    simp only [decide_eq_true_eq] at this
    omega
  | .list xs, h => by
    simp only [okD] at h
    obtain ⟨h1, h2⟩ := okDs_show xs h
    exact ⟨by simp only [PyData.showable, h1], by simp only [PyData.leavesShort, h2]⟩
  | .tuple xs, h => by
    simp only [okD] at h
    obtain ⟨h1, h2⟩ := okDs_show xs h
    exact ⟨by simp only [PyData.showable, h1], by simp only [PyData.leavesShort, h2]⟩
  | .dict [], _ => ⟨rfl, rfl⟩
  | .dict (_ :: _), h => by simp [okD] at h
theorem okDs_show : ∀ ds : List PyData, okDs ds = true → PyData.showableAll ds = true ∧ PyData.leavesShortAll 22 ds = true
  | [], _ => ⟨rfl, rfl⟩
  | x :: xs, h => by
    simp only [okDs, Bool.and_eq_true] at h
    obtain ⟨h1, h2⟩ := okD_show x h.1
    obtain ⟨h3, h4⟩ := okDs_show xs h.2
    exact ⟨by simp only [PyData.showableAll, h1, h3, Bool.and_self], by simp only [PyData.leavesShortAll, h2, h4, Bool.and_self]⟩
end
/-- a value that can be shown, of weight at most W, of depth at most D -/
structure Bs (W D : Nat) (u : PyData) : Prop where
  o : okD u = true
  w : u.weight ≤ W
  d : u.depth ≤ D
structure Bss (W D : Nat) (us : List PyData) : Prop where
  o : ∀ u ∈ us, okD u = true
  w : PyData.weightAll us ≤ W
  d : PyData.depthAll us ≤ D
def bsB (W D : Nat) (u : PyData) : Bool := okD u && decide (u.weight ≤ W) && decide (u.depth ≤ D)
theorem bsB_ok {W D : Nat} {u : PyData} (h : bsB W D u = true) : Bs W D u := by
  simp only [bsB, Bool.and_eq_true, decide_eq_true_eq] at h
  exact ⟨h.1.1, h.1.2, h.2⟩
section
variable {W W' D D' W1 W2 D1 D2 n : Nat} {u x : PyData} {xs ys : List PyData}
theorem Bs.mono (h : Bs W D u) (hW : W ≤ W') (hD : D ≤ D') : Bs W' D' u := ⟨h.o, Nat.le_trans h.w hW, Nat.le_trans h.d hD⟩
theorem Bss.mono (h : Bss W D xs) (hW : W ≤ W') (hD : D ≤ D') : Bss W' D' xs := ⟨h.o, Nat.le_trans h.w hW, Nat.le_trans h.d hD⟩
theorem Bs.none : Bs 0 0 .none := ⟨rfl, Nat.le_refl _, Nat.le_refl _⟩
theorem Bs.bool (b : Bool) : Bs 0 0 (.bool b) := ⟨rfl, Nat.le_refl _, Nat.le_refl _⟩
theorem Bs.dict0 : Bs 0 1 (.dict []) := bsB_ok (by decide)
theorem Bs.int {i : Int} (h1 : -B20 ≤ i) (h2 : i ≤ B20) : Bs 68 0 (.int i) := by
  have e : (10 : Int) ^ 20 = B20 := by decide
  refine ⟨by simp only [okD, Bool.and_eq_true, decide_eq_true_eq]; exact ⟨h1, h2⟩, wInt (by omega) (by omega), by simp only [PyData.depth]; omega⟩
theorem Bs.sint {i : Int} (h1 : -1000000 ≤ i) (h2 : i ≤ 1000000) : Bs 68 0 (.int i) := by
  have e : B20 = 100000000000000000000 := rfl
  exact Bs.int (by omega) (by omega)
theorem Bs.nat {i : Nat} (h2 : i ≤ 1000000) : Bs 68 0 (.int (i : Int)) := Bs.sint (by omega) (by omega)
theorem Bs.str {z : Str} (h : PyData.strOk z = true) (hl : z.length ≤ n) : Bs n 0 (.str z) := ⟨h, hl, Nat.le_refl _⟩
theorem Bss.nil : Bss 0 0 [] := ⟨(fun _ h => nomatch h), Nat.le_refl _, Nat.le_refl _⟩
theorem Bss.cons (h : Bs W1 D1 x) (t : Bss W2 D2 xs) : Bss (W1 + 1 + W2) (max D1 D2) (x :: xs) where
  o := fun u hu => by
    rcases List.mem_cons.mp hu with e | e
    · rw [e]; exact h.o
    · exact t.o u e
  w := by
    have := h.w
    have := t.w
    simp only [PyData.weightAll]; omega
  d := by
    have := h.d
    have := t.d
    simp only [PyData.depthAll]; omega
theorem Bss.one (h : Bs W D x) : Bss (W + 1) D [x] := (Bss.cons h .nil).mono (Nat.le_refl _) (by omega)
theorem Bss.append (h : Bss W1 D1 xs) (t : Bss W2 D2 ys) : Bss (W1 + W2) (max D1 D2) (xs ++ ys) where
  o := fun u hu => by
    rcases List.mem_append.mp hu with e | e
    · exact h.o u e
    · exact t.o u e
  w := by
    have := h.w
    have := t.w
    rw [weightAll_append]; omega
  d := by
    have := h.d
    have := t.d
    rw [depthAll_append]; omega
theorem Bss.of (h : ∀ x ∈ xs, Bs W D x) (hn : xs.length ≤ n) : Bss (n * (W + 1)) D xs where
  o := fun u hu => (h u hu).o
  w := Nat.le_trans (weight_le xs fun x hx => (h x hx).w) (Nat.mul_le_mul_right _ hn)
  d := depth_le xs fun x hx => (h x hx).d
theorem Bss.mem (h : Bss W D xs) (hx : x ∈ xs) : Bs W D x := ⟨h.o x hx, by have := weight_mem hx; have := h.w; omega, Nat.le_trans (depth_mem hx) h.d⟩
theorem Bss.reverse (h : Bss W D xs) : Bss W D xs.reverse := ⟨fun u hu => h.o u (List.mem_reverse.mp hu), by rw [weightAll_reverse]; exact h.w, Nat.le_trans (depth_sub fun y hy => List.mem_reverse.mp hy) h.d⟩
theorem Bss.take (k : Nat) (h : Bss W D xs) : Bss W D (xs.take k) := ⟨fun u hu => h.o u (List.mem_of_mem_take hu), by have := weight_split k xs; have := h.w; omega, Nat.le_trans (depth_sub fun y hy => List.mem_of_mem_take hy) h.d⟩
theorem Bss.drop (k : Nat) (h : Bss W D xs) : Bss W D (xs.drop k) := ⟨fun u hu => h.o u (List.mem_of_mem_drop hu), by have := weight_split k xs; have := h.w; omega, Nat.le_trans (depth_sub fun y hy => List.mem_of_mem_drop hy) h.d⟩
theorem Bs.tup (h : Bss W D xs) : Bs W (D + 1) (.tuple xs) :=
  ⟨by simp only [okD]; exact (okDs_iff xs).mpr h.o, by simp only [PyData.weight]; exact h.w, by simp only [PyData.depth]; have := h.d; omega⟩
theorem Bs.lst (h : Bss W D xs) : Bs W (D + 1) (.list xs) :=
  ⟨by simp only [okD]; exact (okDs_iff xs).mpr h.o, by simp only [PyData.weight]; exact h.w, by simp only [PyData.depth]; have := h.d; omega⟩
theorem Bs.tup_inv (h : Bs W D (.tuple xs)) : Bss W (D - 1) xs :=
  ⟨(okDs_iff xs).mp (by have := h.o; simpa only [okD] using this), by have := h.w; simpa only [PyData.weight] using this, by have := h.d; simp only [PyData.depth] at this; omega⟩
theorem Bs.lst_inv (h : Bs W D (.list xs)) : Bss W (D - 1) xs :=
  ⟨(okDs_iff xs).mp (by have := h.o; simpa only [okD] using this), by have := h.w; simpa only [PyData.weight] using this, by have := h.d; simp only [PyData.depth] at this; omega⟩
theorem Bs.t2 {a b : PyData} (ha : Bs W1 D1 a) (hb : Bs W2 D2 b) : Bs (W1 + 1 + (W2 + 1)) (max D1 D2 + 1) (.tuple [a, b]) := Bs.tup (Bss.cons ha (Bss.one hb))
theorem Bs.l2 {a b : PyData} (ha : Bs W1 D1 a) (hb : Bs W2 D2 b) : Bs (W1 + 1 + (W2 + 1)) (max D1 D2 + 1) (.list [a, b]) := Bs.lst (Bss.cons ha (Bss.one hb))
theorem len_weight : ∀ xs : List PyData, xs.length ≤ PyData.weightAll xs
  | [] => Nat.le_refl _
  | x :: xs => by have := len_weight xs; simp only [List.length_cons, PyData.weightAll]; omega
theorem Bss.len (h : Bss W D xs) : xs.length ≤ W := Nat.le_trans (len_weight xs) h.w
theorem Bs.repr (h : Bs W D u) (hW : W ≤ 600000) (hD : D ≤ 60) : gRepr u = some (.str u.shown) := by
  obtain ⟨h1, h2⟩ := okD_show u h.o
  have h3 := PyData.shown_le 22 (by decide) u h2
  have hw := h.w
  have hd : u.depth ≤ 60 := Nat.le_trans h.d hD
  have h4 : u.shown.length ≤ sizeLine := by
    rw [sizeLine_eq]
    have : (22 + 2) * u.weight ≤ (22 + 2) * 600000 := Nat.mul_le_mul_left _ (Nat.le_trans hw hW)
    omega
  simp only [gRepr, h1, hd, h4, and_self, if_true]
theorem Bss.ints {ns : List Int} (h : ∀ n ∈ ns, -1000000 ≤ n ∧ n ≤ 1000000) (hl : ns.length ≤ n) : Bss (n * 69) 0 (ns.map PyData.int) :=
  Bss.of (W := 68) (D := 0) (fun x hx => by
    obtain ⟨k, hk, rfl⟩ := List.mem_map.mp hx
    exact Bs.sint (h k hk).1 (h k hk).2) (by rw [List.length_map]; exact hl)
end
end DL

set_option maxHeartbeats 2000000
namespace DL
open PySem L2
set_option autoImplicit false
abbrev gDraw (A B C : Int) : MS := (sSeq (sIf (fTv (fB gGt (fPot 0 0) (fC (.int 0)))) (sSeq (sPotN 0 0 2 (fB gDivmod (fPot 0 0) (fVx 1))) (sRet (fV 2))) sNil) (sSeq (sPot 0 1 (fB gMod (fU gInt (fB gAdd (fB gMul (fPot 0 1) (fC (.int A))) (fC (.int B)))) (fC (.int 2147483587)))) (sRet (fB gMod (fU gInt (fB gDiv (fB gMod (fU gInt (fB gMul (fPot 0 1) (fPot 0 1))) (fC (.int 2147483549))) (fC (.int C)))) (fVx 1)))))
theorem e_drawG {A B C : Int} (hA : 0 ≤ A ∧ A ≤ 1000000) (hC : 1 ≤ C ∧ C ≤ 1000) (π : Pt) (size : Int) (h1 : 1 ≤ size) (h2 : size < 1073741824) : ∃ d π', mOf 3 (gDraw A B C) [.p, .d (.int size)] π = some (.int d, π') ∧ 0 ≤ d ∧ d < size := by
  have hc : ∀ i, cDiv i size = true := fun i => by simp only [cDiv, Bool.and_eq_true, decide_eq_true_eq]; omega
  unfold gDraw
  cases h : decide (0 < π.1) with
  | true =>
    refine ⟨π.1 % size, (π.1 / size, π.2), ?_, Int.emod_nonneg _ (by omega), Int.emod_lt_of_pos _ (by omega)⟩
    simp only [mOf, mOfZ, mOfR, asRt, entry, List.length_cons, List.length_nil, List.replicate, List.cons_append, List.nil_append, Nat.reduceAdd, Nat.reduceSub, fV, fVx, fC, fB, fBN, fU, fUN, fL, fIsi, fAndV, fOrV, fNotV, fTv, asB, asL, asT, fNotT, fAndT, fOrT, fIf, fIfN, fCh, fCl, fClN, aNil, aD, aN, aP, fNil, fCons, fTup, fLst, sNil, sSeq, sSet, sSetM, sRet, sRetN, sIf, sBrk, sCnt, sDrop, sFor, rSeq, sFrz, iL, iT, iS, iE, iZ, oNone, oSome, fSlA, fSlL, fPot, sPot, gPot, sPotN, List.getElem?_cons_zero, List.getElem?_cons_succ, List.set_cons_zero, List.set_cons_succ, Option.bind_some, Option.map_some, Option.bind_none, Option.map_none, List.all_cons, List.all_nil, Sl.dp, Bool.and_true, Bool.true_and, and_self, and_true, true_and, if_true, if_false, ite_true, ite_false, Bool.false_eq_true, reduceCtorEq, reduceIte, Bool.not_true, Bool.not_false, gEq_str, gEq_int, gAdd_int, le_line, Nat.reduceLeDiff, Nat.reduceEqDiff, ne_eq, not_false_eq_true, cast_2, cast_3, cast_4, cast_5, cast_1, cast_0, eq_self, decide_true, decide_false, gGt, gCmp, h, gDivmod, hc]
  | false =>
    have c1 : cMul π.2 A = true := by
      simp only [cMul, Bool.or_eq_true, Bool.and_eq_true, decide_eq_true_eq]
      omega
    have hr : ∀ x : Int, 0 ≤ x % 2147483587 ∧ x % 2147483587 < 2147483587 := fun x => ⟨Int.emod_nonneg _ (by omega), Int.emod_lt_of_pos _ (by omega)⟩
    have c2 : ∀ x : Int, cMul (x % 2147483587) (x % 2147483587) = true := fun x => by
      have := hr x
      simp only [cMul, Bool.or_eq_true, Bool.and_eq_true, decide_eq_true_eq]
      omega
    have c3 : ∀ i, cDiv i C = true := fun i => by simp only [cDiv, Bool.and_eq_true, decide_eq_true_eq]; omega
    have c4 : decide (0 < size) = true := by simp; omega
    have n1 : ((1 : Int) = 0) = False := by simp
    have c5 : decide ((0 : Int) < 2147483587) = true := rfl
    have c6 : decide ((0 : Int) < 2147483549) = true := rfl
    refine ⟨(((π.2 * A + B) % 2147483587 * ((π.2 * A + B) % 2147483587)) % 2147483549 / C) % size, (π.1, (π.2 * A + B) % 2147483587), ?_, Int.emod_nonneg _ (by omega), Int.emod_lt_of_pos _ (by omega)⟩
    · simp only [mOf, mOfZ, mOfR, asRt, entry, List.length_cons, List.length_nil, List.replicate, List.cons_append, List.nil_append, Nat.reduceAdd, Nat.reduceSub, fV, fVx, fC, fB, fBN, fU, fUN, fL, fIsi, fAndV, fOrV, fNotV, fTv, asB, asL, asT, fNotT, fAndT, fOrT, fIf, fIfN, fCh, fCl, fClN, aNil, aD, aN, aP, fNil, fCons, fTup, fLst, sNil, sSeq, sSet, sSetM, sRet, sRetN, sIf, sBrk, sCnt, sDrop, sFor, rSeq, sFrz, iL, iT, iS, iE, iZ, oNone, oSome, fSlA, fSlL, fPot, sPot, gPot, sPotN, List.getElem?_cons_zero, List.getElem?_cons_succ, List.set_cons_zero, List.set_cons_succ, Option.bind_some, Option.map_some, Option.bind_none, Option.map_none, List.all_cons, List.all_nil, Sl.dp, Bool.and_true, Bool.true_and, and_self, and_true, true_and, if_true, if_false, ite_true, ite_false, Bool.false_eq_true, reduceCtorEq, reduceIte, Bool.not_true, Bool.not_false, gEq_str, gEq_int, gAdd_int, le_line, Nat.reduceLeDiff, Nat.reduceEqDiff, ne_eq, not_false_eq_true, cast_2, cast_3, cast_4, cast_5, cast_1, cast_0, eq_self, decide_true, decide_false, gGt, gCmp, h, gMul, gMulI, gI, c1, gAdd, gInt, gMod, cMod, c2, gDiv, c3, c4, n1, c5, c6]
/-- a mirror that draws -/
def Draws (m : MF) : Prop := ∀ (π : Pt) (size : Int), 1 ≤ size → size < 1073741824 → ∃ d π', m [.p, .d (.int size)] π = some (.int d, π') ∧ 0 ≤ d ∧ d < size
theorem drawG {A B C : Int} (hA : 0 ≤ A ∧ A ≤ 1000000) (hC : 1 ≤ C ∧ C ≤ 1000) : Draws (mOf 3 (gDraw A B C)) := fun π size h1 h2 => e_drawG hA hC π size h1 h2
section
variable {m : MF} {Q : PyData → Pt → Prop} {π : Pt}
theorem Draws.wp (D : Draws m) {size : Int} (h1 : 1 ≤ size) (h2 : size < 1073741824) (h : ∀ d π', 0 ≤ d → d < size → Q (.int d) π') : wp (m [.p, .d (.int size)] π) Q := by
  obtain ⟨d, π', e, q1, q2⟩ := D π size h1 h2
  exact ⟨_, _, e, h d π' q1 q2⟩
abbrev gPick (m : MF) : MS := (sRet (fB gIx (fVx 1) (fCl 2 m (aP 0 (aD (fU gLen (fVx 1)) aNil)))))
def Picks (p : MF) : Prop := ∀ (xs : List PyData), xs ≠ [] → xs.length ≤ 1000000 → ∀ (π : Pt) (Q : PyData → Pt → Prop), (∀ x π', x ∈ xs → Q x π') → DL.wp (p [.p, .d (.list xs)] π) Q ∧ DL.wp (p [.p, .d (.tuple xs)] π) Q
theorem pickG (D : Draws m) : Picks (mOf 2 (gPick m)) := fun xs h hl π Q hq => by
  have h0 : 0 < xs.length := List.length_pos_iff.mpr h
  obtain ⟨d, π', e, h1, h2⟩ := D π xs.length (by omega) (by omega)
  have hd : d.toNat < xs.length := by omega
  have e2 : L2.atI xs d = some xs[d.toNat] := by
    rw [atI_pos _ h1, List.getElem?_eq_getElem hd]
  have hm := hq xs[d.toNat] π' (List.getElem_mem _)
  constructor
  · simp (config := { failIfUnchanged := false }) only [mOf, mOfZ, mOfR, asB_b, asL_l, asT_t, asRt_rt, asRt_nx, wp_asRt, wp_asB, wp_asL, wp_asT, wp_bind, wp_map, wp_some, wp_fLc, wp_iR1, wp_iA, wp_iE, wp_iS, wp_iR2, caseA_l, caseA_t, caseL_l, caseT_t, caseB_b, caseI_i, caseS_s, entry, List.length_cons, List.length_nil, List.replicate, List.cons_append, List.nil_append, Nat.reduceAdd, Nat.reduceSub, fV, fVx, fC, fB, fBN, fU, fUN, fL, fIsi_ap, fAndV, fOrV, fNotV, fTv, fNotT, fAndT, fOrT, fIf, fIfN, fCh, fCl, fClN, aNil, aD, aN, aP, fNil, fCons, fTup, fLst, sNil, sSeq, sSet, sSetM, sRet, sRetN, sIf, sBrk, sCnt, sDrop, sFor, rSeq, sFrz, iL, iT, iZ, oNone, oSome, fSlA, fSlL, fPot, sPot, gPot, sPotN, tName, tTupG, tsCons, tsNil, sPar, sPar3, notP, sUnp, wipeE, sApp, sExt, sSetIx, List.getElem?_cons_zero, List.getElem?_cons_succ, List.set_cons_zero, List.set_cons_succ, Option.bind_some, Option.map_some, Option.bind_none, Option.map_none, List.all_cons, List.all_nil, Sl.dp, Bool.and_true, Bool.true_and, and_self, and_true, true_and, if_true, if_false, ite_true, ite_false, Bool.false_eq_true, reduceCtorEq, reduceIte, Bool.not_true, Bool.not_false, gEq_str, gEq_int, gAdd_int, le_line, Nat.reduceLeDiff, Nat.reduceEqDiff, ne_eq, not_false_eq_true, cast_2, cast_3, cast_4, cast_5, cast_1, cast_0, eq_self, decide_true, decide_false, gLen_lst, e, gIx_lst, e2]
    exact hm
  · simp (config := { failIfUnchanged := false }) only [mOf, mOfZ, mOfR, asB_b, asL_l, asT_t, asRt_rt, asRt_nx, wp_asRt, wp_asB, wp_asL, wp_asT, wp_bind, wp_map, wp_some, wp_fLc, wp_iR1, wp_iA, wp_iE, wp_iS, wp_iR2, caseA_l, caseA_t, caseL_l, caseT_t, caseB_b, caseI_i, caseS_s, entry, List.length_cons, List.length_nil, List.replicate, List.cons_append, List.nil_append, Nat.reduceAdd, Nat.reduceSub, fV, fVx, fC, fB, fBN, fU, fUN, fL, fIsi_ap, fAndV, fOrV, fNotV, fTv, fNotT, fAndT, fOrT, fIf, fIfN, fCh, fCl, fClN, aNil, aD, aN, aP, fNil, fCons, fTup, fLst, sNil, sSeq, sSet, sSetM, sRet, sRetN, sIf, sBrk, sCnt, sDrop, sFor, rSeq, sFrz, iL, iT, iZ, oNone, oSome, fSlA, fSlL, fPot, sPot, gPot, sPotN, tName, tTupG, tsCons, tsNil, sPar, sPar3, notP, sUnp, wipeE, sApp, sExt, sSetIx, List.getElem?_cons_zero, List.getElem?_cons_succ, List.set_cons_zero, List.set_cons_succ, Option.bind_some, Option.map_some, Option.bind_none, Option.map_none, List.all_cons, List.all_nil, Sl.dp, Bool.and_true, Bool.true_and, and_self, and_true, true_and, if_true, if_false, ite_true, ite_false, Bool.false_eq_true, reduceCtorEq, reduceIte, Bool.not_true, Bool.not_false, gEq_str, gEq_int, gAdd_int, le_line, Nat.reduceLeDiff, Nat.reduceEqDiff, ne_eq, not_false_eq_true, cast_2, cast_3, cast_4, cast_5, cast_1, cast_0, eq_self, decide_true, decide_false, gLen_tup, e, gIx_tup, e2]
    exact hm
theorem Picks.lst {p : MF} (P : Picks p) {xs : List PyData} (h : xs ≠ []) (hl : xs.length ≤ 1000000) (hq : ∀ x π', x ∈ xs → Q x π') : DL.wp (p [.p, .d (.list xs)] π) Q := (P xs h hl π Q hq).1
theorem Picks.tup {p : MF} (P : Picks p) {xs : List PyData} (h : xs ≠ []) (hl : xs.length ≤ 1000000) (hq : ∀ x π', x ∈ xs → Q x π') : DL.wp (p [.p, .d (.tuple xs)] π) Q := (P xs h hl π Q hq).2
end
abbrev fCell (other : MX) : MX := (fIf (fTv (fB gLt (fVx 1) (fU gLen (fVx 0)))) (fU gAbs (fB gIx (fVx 0) (fVx 1))) other)
abbrev lPot (A B C : Int) : ML := (fLst (fCons (fB gMax2 (fC (.int 0)) (fB gSubI (fVx 2) (fB gPow (fC (.int 10)) (fC (.int 18))))) (fCons (fB gAdd (fB gMod (fU gInt (fB gAdd (fB gAdd (fB gMul (fB gMod (fU gInt (fVx 2)) (fC (.int 2147483549))) (fC (.int A))) (fB gMul (fC (.int B)) (fVx 1))) (fC (.int C)))) (fC (.int 2147483563))) (fC (.int 1))) fNil)))
def Pots (m : MFN) : Prop := ∀ (ns : List Int) (k : Int) (π : Pt) (Q : List PyData → Pt → Prop), ns.length ≤ 1000000 → 0 ≤ k → k ≤ 1000 → (∀ a b, Q [.int a, .int b] π) → wp (m [.d (.list (ns.map PyData.int)), .d (.int k)] π) Q
theorem potG {A B C : Int} {N : Nat} {other : MX} (hN : 3 ≤ N) (hA : 0 ≤ A ∧ A ≤ 1000000) (hB : 0 ≤ B ∧ B ≤ 1000000) (ho : ∀ (ns : List Int) (k : Int) (π : Pt), ns.length ≤ 1000000 → 0 ≤ k → k ≤ 1000 → ∃ c, other (entry N [.d (.list (ns.map PyData.int)), .d (.int k)]) π = some (.int c, π)) : Pots (mOfR N (rSeq (sSet 2 (fCell other)) (lPot A B C))) := fun ns k π Q hl hk hk2 hq => by
  have p1 : cPow 10 18 = true := by decide +kernel
  have m1 : ∀ i, cMul i A = true := fun i => by
    simp only [cMul, Bool.or_eq_true, Bool.and_eq_true, decide_eq_true_eq]; omega
  have m2 : ∀ i, cMul B i = true := fun i => by
    simp only [cMul, Bool.or_eq_true, Bool.and_eq_true, decide_eq_true_eq]; omega
  have d1 : decide ((0 : Int) < 2147483549) = true := rfl
  have d2 : decide ((0 : Int) < 2147483563) = true := rfl
  obtain ⟨c, ec⟩ := ho ns k π hl hk hk2
  have en : entry N [.d (.list (ns.map PyData.int)), .d (.int k)] = .d (.list (ns.map PyData.int)) :: .d (.int k) :: .e :: List.replicate (N - 3) .e := by
    unfold entry
    have e3 : N - ([.d (.list (ns.map PyData.int)), .d (.int k)] : List Sl).length = (N - 3) + 1 := by simp only [List.length_cons, List.length_nil]; omega
    rw [e3, List.replicate_succ]
    rfl
  rw [en] at ec
  unfold mOfR
  rw [en]
  generalize List.replicate (N - 3) Sl.e = tl at *
  have cell : ∃ c, fCell other (.d (.list (ns.map PyData.int)) :: .d (.int k) :: .e :: tl) π = some (.int c, π) := by
    cases h : decide (k < ((ns.map PyData.int).length : Int)) with
    | true =>
      have hl : k.toNat < ns.length := by
        have := of_decide_eq_true h
        rw [List.length_map] at this
        omega
      have e2 : L2.atI (ns.map PyData.int) k = some (.int ns[k.toNat]) := by
        rw [atI_pos _ hk, List.getElem?_map, List.getElem?_eq_getElem hl]
        rfl
      unfold fCell
      simp only [mOf, mOfZ, mOfR, asRt, entry, List.length_cons, List.length_nil, List.replicate, List.cons_append, List.nil_append, Nat.reduceAdd, Nat.reduceSub, fV, fVx, fC, fB, fBN, fU, fUN, fL, fIsi, fAndV, fOrV, fNotV, fTv, asB, asL, asT, fNotT, fAndT, fOrT, fIf, fIfN, fCh, fCl, fClN, aNil, aD, aN, aP, fNil, fCons, fTup, fLst, sNil, sSeq, sSet, sSetM, sRet, sRetN, sIf, sBrk, sCnt, sDrop, sFor, rSeq, sFrz, iL, iT, iS, iE, iZ, oNone, oSome, fSlA, fSlL, fPot, sPot, gPot, sPotN, List.getElem?_cons_zero, List.getElem?_cons_succ, List.set_cons_zero, List.set_cons_succ, Option.bind_some, Option.map_some, Option.bind_none, Option.map_none, List.all_cons, List.all_nil, Sl.dp, Bool.and_true, Bool.true_and, and_self, and_true, true_and, if_true, if_false, ite_true, ite_false, Bool.false_eq_true, reduceCtorEq, reduceIte, Bool.not_true, Bool.not_false, gEq_str, gEq_int, gAdd_int, le_line, Nat.reduceLeDiff, Nat.reduceEqDiff, ne_eq, not_false_eq_true, cast_2, cast_3, cast_4, cast_5, cast_1, cast_0, eq_self, decide_true, decide_false, gLt, gCmp, gLen_lst, h, gIx_lst, e2, gAbs]
      exact ⟨_, rfl⟩
    | false =>
      unfold fCell
      simp only [mOf, mOfZ, mOfR, asRt, entry, List.length_cons, List.length_nil, List.replicate, List.cons_append, List.nil_append, Nat.reduceAdd, Nat.reduceSub, fV, fVx, fC, fB, fBN, fU, fUN, fL, fIsi, fAndV, fOrV, fNotV, fTv, asB, asL, asT, fNotT, fAndT, fOrT, fIf, fIfN, fCh, fCl, fClN, aNil, aD, aN, aP, fNil, fCons, fTup, fLst, sNil, sSeq, sSet, sSetM, sRet, sRetN, sIf, sBrk, sCnt, sDrop, sFor, rSeq, sFrz, iL, iT, iS, iE, iZ, oNone, oSome, fSlA, fSlL, fPot, sPot, gPot, sPotN, List.getElem?_cons_zero, List.getElem?_cons_succ, List.set_cons_zero, List.set_cons_succ, Option.bind_some, Option.map_some, Option.bind_none, Option.map_none, List.all_cons, List.all_nil, Sl.dp, Bool.and_true, Bool.true_and, and_self, and_true, true_and, if_true, if_false, ite_true, ite_false, Bool.false_eq_true, reduceCtorEq, reduceIte, Bool.not_true, Bool.not_false, gEq_str, gEq_int, gAdd_int, le_line, Nat.reduceLeDiff, Nat.reduceEqDiff, ne_eq, not_false_eq_true, cast_2, cast_3, cast_4, cast_5, cast_1, cast_0, eq_self, decide_true, decide_false, gLt, gCmp, gLen_lst, h, ec]
      exact ⟨_, rfl⟩
  obtain ⟨c2, e2⟩ := cell
  unfold rSeq sSet
  rw [e2]
  unfold lPot
  simp (config := { failIfUnchanged := false }) only [mOf, mOfZ, mOfR, asB_b, asL_l, asT_t, asRt_rt, asRt_nx, wp_asRt, wp_asB, wp_asL, wp_asT, wp_bind, wp_map, wp_some, wp_fLc, wp_iR1, wp_iA, wp_iE, wp_iS, wp_iR2, caseA_l, caseA_t, caseL_l, caseT_t, caseB_b, caseI_i, caseS_s, entry, List.length_cons, List.length_nil, List.replicate, List.cons_append, List.nil_append, Nat.reduceAdd, Nat.reduceSub, fV, fVx, fC, fB, fBN, fU, fUN, fL, fIsi_ap, fAndV, fOrV, fNotV, fTv, fNotT, fAndT, fOrT, fIf, fIfN, fCh, fCl, fClN, aNil, aD, aN, aP, fNil, fCons, fTup, fLst, sNil, sSeq, sSet, sSetM, sRet, sRetN, sIf, sBrk, sCnt, sDrop, sFor, rSeq, sFrz, iL, iT, iZ, oNone, oSome, fSlA, fSlL, fPot, sPot, gPot, sPotN, tName, tTupG, tsCons, tsNil, sPar, sPar3, notP, sUnp, wipeE, sApp, sExt, sSetIx, List.getElem?_cons_zero, List.getElem?_cons_succ, List.set_cons_zero, List.set_cons_succ, Option.bind_some, Option.map_some, Option.bind_none, Option.map_none, List.all_cons, List.all_nil, Sl.dp, Bool.and_true, Bool.true_and, and_self, and_true, true_and, if_true, if_false, ite_true, ite_false, Bool.false_eq_true, reduceCtorEq, reduceIte, Bool.not_true, Bool.not_false, gEq_str, gEq_int, gAdd_int, le_line, Nat.reduceLeDiff, Nat.reduceEqDiff, ne_eq, not_false_eq_true, cast_2, cast_3, cast_4, cast_5, cast_1, cast_0, eq_self, decide_true, decide_false, gMax2, gSubI, gPow, gI, p1, gAdd, gMod, cMod, gInt, gMul, gMulI, m1, m2, d1, d2]
  exact hq _ _
/-- the number where the script has none: a number of k, and the first of the script -/
abbrev oFirst (A B M : Int) : MX := (fB gAdd (fB gAdd (fB gMul (fC (.int A)) (fVx 1)) (fC (.int B))) (fB gMod (fU gInt (fU gSum (fL (fSlL (fVx 0) oNone (oSome (fC (.int 1))))))) (fC (.int M))))
theorem oFirst_ok {A B M : Int} {N : Nat} (hN : 3 ≤ N) (hA : 0 ≤ A ∧ A ≤ 1000000) (hM : 1 ≤ M ∧ M ≤ 100000000) (ns : List Int) (k : Int) (π : Pt) (hl : ns.length ≤ 1000000) (hk : 0 ≤ k) (hk2 : k ≤ 1000) : ∃ c, oFirst A B M (entry N [.d (.list (ns.map PyData.int)), .d (.int k)]) π = some (.int c, π) := by
  have m1 : ∀ i, cMul A i = true := fun i => by
    simp only [cMul, Bool.or_eq_true, Bool.and_eq_true, decide_eq_true_eq]; omega
  have d3 : decide ((0 : Int) < M) = true := by rw [decide_eq_true_eq]; omega
  have e4 : cutD (ns.map PyData.int) none (some 1) = (ns.take 1).map PyData.int := by
    rw [List.map_take]; exact cutD_to _ 1
  have en : ∃ tl, entry N [.d (.list (ns.map PyData.int)), .d (.int k)] = .d (.list (ns.map PyData.int)) :: .d (.int k) :: tl := ⟨_, rfl⟩
  obtain ⟨tl, en⟩ := en
  rw [en]
  unfold oFirst
  simp only [mOf, mOfZ, mOfR, asRt, entry, List.length_cons, List.length_nil, List.replicate, List.cons_append, List.nil_append, Nat.reduceAdd, Nat.reduceSub, fV, fVx, fC, fB, fBN, fU, fUN, fL, fIsi, fAndV, fOrV, fNotV, fTv, asB, asL, asT, fNotT, fAndT, fOrT, fIf, fIfN, fCh, fCl, fClN, aNil, aD, aN, aP, fNil, fCons, fTup, fLst, sNil, sSeq, sSet, sSetM, sRet, sRetN, sIf, sBrk, sCnt, sDrop, sFor, rSeq, sFrz, iL, iT, iS, iE, iZ, oNone, oSome, fSlA, fSlL, fPot, sPot, gPot, sPotN, List.getElem?_cons_zero, List.getElem?_cons_succ, List.set_cons_zero, List.set_cons_succ, Option.bind_some, Option.map_some, Option.bind_none, Option.map_none, List.all_cons, List.all_nil, Sl.dp, Bool.and_true, Bool.true_and, and_self, and_true, true_and, if_true, if_false, ite_true, ite_false, Bool.false_eq_true, reduceCtorEq, reduceIte, Bool.not_true, Bool.not_false, gEq_str, gEq_int, gAdd_int, le_line, Nat.reduceLeDiff, Nat.reduceEqDiff, ne_eq, not_false_eq_true, cast_2, cast_3, cast_4, cast_5, cast_1, cast_0, eq_self, decide_true, decide_false, e4, gSum, ints_map, gAdd, gMod, cMod, gInt, gMul, gMulI, m1, d3, gI]
  exact ⟨_, rfl⟩
/-- the same with the sum of what the script has -/
abbrev oSum (A B M : Int) (j : Nat) : MX := (fB gAdd (fB gAdd (fB gMul (fC (.int A)) (fVx 1)) (fC (.int B))) (fU gInt (fB gMod (fU gSum (fL (fLc (iL (fV 0)) [j] (tName j) (fun _ π => some (true, π)) (fU gAbs (fVx j))))) (fC (.int M)))))
theorem oSum_ok {A B M : Int} (hA : 0 ≤ A ∧ A ≤ 1000000) (hM : 1 ≤ M ∧ M ≤ 100000000) (ns : List Int) (k : Int) (π : Pt) (hl : ns.length ≤ 1000000) (hk : 0 ≤ k) (hk2 : k ≤ 1000) : ∃ c, oSum A B M 3 (entry 4 [.d (.list (ns.map PyData.int)), .d (.int k)]) π = some (.int c, π) := by
  have m1 : ∀ i, cMul A i = true := fun i => by
    simp only [cMul, Bool.or_eq_true, Bool.and_eq_true, decide_eq_true_eq]; omega
  have d3 : decide ((0 : Int) < M) = true := by rw [decide_eq_true_eq]; omega
  have lc : fLc (iL (fV 0)) [3] (tName 3) (fun _ π => some (true, π)) (fU gAbs (fVx 3)) [.d (.list (ns.map PyData.int)), .d (.int k), .e, .e] π = some ((ns.map fun n => if n < 0 then -n else n).map PyData.int, π) := by
    rw [fLc_map (ds := ns.map PyData.int) (π1 := π) (fun x => match x with | .int n => .int (if n < 0 then -n else n) | _ => .none)]
    · rw [List.map_map, List.map_map]; rfl
    · simp only [mOf, mOfZ, mOfR, asRt, entry, List.length_cons, List.length_nil, List.replicate, List.cons_append, List.nil_append, Nat.reduceAdd, Nat.reduceSub, fV, fVx, fC, fB, fBN, fU, fUN, fL, fIsi, fAndV, fOrV, fNotV, fTv, asB, asL, asT, fNotT, fAndT, fOrT, fIf, fIfN, fCh, fCl, fClN, aNil, aD, aN, aP, fNil, fCons, fTup, fLst, sNil, sSeq, sSet, sSetM, sRet, sRetN, sIf, sBrk, sCnt, sDrop, sFor, rSeq, sFrz, iL, iT, iS, iE, iZ, oNone, oSome, fSlA, fSlL, fPot, sPot, gPot, sPotN, List.getElem?_cons_zero, List.getElem?_cons_succ, List.set_cons_zero, List.set_cons_succ, Option.bind_some, Option.map_some, Option.bind_none, Option.map_none, List.all_cons, List.all_nil, Sl.dp, Bool.and_true, Bool.true_and, and_self, and_true, true_and, if_true, if_false, ite_true, ite_false, Bool.false_eq_true, reduceCtorEq, reduceIte, Bool.not_true, Bool.not_false, gEq_str, gEq_int, gAdd_int, le_line, Nat.reduceLeDiff, Nat.reduceEqDiff, ne_eq, not_false_eq_true, cast_2, cast_3, cast_4, cast_5, cast_1, cast_0, eq_self, decide_true, decide_false]
    · exact len_line (by rw [List.length_map]; exact hl)
    · intro x hx
      obtain ⟨n, _, rfl⟩ := List.mem_map.mp hx
      exact ⟨_, rfl, rfl, by simp only [mOf, mOfZ, mOfR, asRt, entry, List.length_cons, List.length_nil, List.replicate, List.cons_append, List.nil_append, Nat.reduceAdd, Nat.reduceSub, fV, fVx, fC, fB, fBN, fU, fUN, fL, fIsi, fAndV, fOrV, fNotV, fTv, asB, asL, asT, fNotT, fAndT, fOrT, fIf, fIfN, fCh, fCl, fClN, aNil, aD, aN, aP, fNil, fCons, fTup, fLst, sNil, sSeq, sSet, sSetM, sRet, sRetN, sIf, sBrk, sCnt, sDrop, sFor, rSeq, sFrz, iL, iT, iS, iE, iZ, oNone, oSome, fSlA, fSlL, fPot, sPot, gPot, sPotN, List.getElem?_cons_zero, List.getElem?_cons_succ, List.set_cons_zero, List.set_cons_succ, Option.bind_some, Option.map_some, Option.bind_none, Option.map_none, List.all_cons, List.all_nil, Sl.dp, Bool.and_true, Bool.true_and, and_self, and_true, true_and, if_true, if_false, ite_true, ite_false, Bool.false_eq_true, reduceCtorEq, reduceIte, Bool.not_true, Bool.not_false, gEq_str, gEq_int, gAdd_int, le_line, Nat.reduceLeDiff, Nat.reduceEqDiff, ne_eq, not_false_eq_true, cast_2, cast_3, cast_4, cast_5, cast_1, cast_0, eq_self, decide_true, decide_false, wipeE, gAbs]⟩
  unfold oSum
  have en : entry 4 [.d (.list (ns.map PyData.int)), .d (.int k)] = [.d (.list (ns.map PyData.int)), .d (.int k), .e, .e] := rfl
  rw [en]
  simp only [mOf, mOfZ, mOfR, asRt, entry, List.length_cons, List.length_nil, List.replicate, List.cons_append, List.nil_append, Nat.reduceAdd, Nat.reduceSub, fV, fVx, fC, fB, fBN, fU, fUN, fL, fIsi, fAndV, fOrV, fNotV, fTv, asB, asL, asT, fNotT, fAndT, fOrT, fIf, fIfN, fCh, fCl, fClN, aNil, aD, aN, aP, fNil, fCons, fTup, fLst, sNil, sSeq, sSet, sSetM, sRet, sRetN, sIf, sBrk, sCnt, sDrop, sFor, rSeq, sFrz, iL, iT, iS, iE, iZ, oNone, oSome, fSlA, fSlL, fPot, sPot, gPot, sPotN, List.getElem?_cons_zero, List.getElem?_cons_succ, List.set_cons_zero, List.set_cons_succ, Option.bind_some, Option.map_some, Option.bind_none, Option.map_none, List.all_cons, List.all_nil, Sl.dp, Bool.and_true, Bool.true_and, and_self, and_true, true_and, if_true, if_false, ite_true, ite_false, Bool.false_eq_true, reduceCtorEq, reduceIte, Bool.not_true, Bool.not_false, gEq_str, gEq_int, gAdd_int, le_line, Nat.reduceLeDiff, Nat.reduceEqDiff, ne_eq, not_false_eq_true, cast_2, cast_3, cast_4, cast_5, cast_1, cast_0, eq_self, decide_true, decide_false, lc, gSum, ints_map, gAdd, gMod, cMod, gInt, gMul, gMulI, m1, d3, gI]
  exact ⟨_, rfl⟩
end DL

set_option maxHeartbeats 2000000
namespace Pg
open PySem DL
set_option autoImplicit false
theorem e_is_integer (x : PyData) (π : Pt) : m_is_integer [.d x] π = some (.bool (dInt x), π) := by
  unfold m_is_integer g_is_integer
  simp only [mOf, mOfZ, mOfR, asRt, entry, List.length_cons, List.length_nil, List.replicate, List.cons_append, List.nil_append, Nat.reduceAdd, Nat.reduceSub, fV, fVx, fC, fB, fBN, fU, fUN, fL, fIsi, fAndV, fOrV, fNotV, fTv, asB, asL, asT, fNotT, fAndT, fOrT, fIf, fIfN, fCh, fCl, fClN, aNil, aD, aN, aP, fNil, fCons, fTup, fLst, sNil, sSeq, sSet, sSetM, sRet, sRetN, sIf, sBrk, sCnt, sDrop, sFor, rSeq, sFrz, iL, iT, iS, iE, iZ, oNone, oSome, fSlA, fSlL, fPot, sPot, gPot, sPotN, List.getElem?_cons_zero, List.getElem?_cons_succ, List.set_cons_zero, List.set_cons_succ, Option.bind_some, Option.map_some, Option.bind_none, Option.map_none, List.all_cons, List.all_nil, Sl.dp, Bool.and_true, Bool.true_and, and_self, and_true, true_and, if_true, if_false, ite_true, ite_false, Bool.false_eq_true, reduceCtorEq, reduceIte, Bool.not_true, Bool.not_false, gEq_str, gEq_int, gAdd_int, le_line, Nat.reduceLeDiff, Nat.reduceEqDiff, ne_eq, not_false_eq_true, cast_2, cast_3, cast_4, cast_5, cast_1, cast_0, eq_self, decide_true, decide_false, isi_int, isi_bool]
  cases x <;> simp [dInt, dBool]
theorem e_is_within (x : PyData) (a b : Int) (π : Pt) : m_is_within [.d x, .d (.int a), .d (.int b)] π = some (.bool (dIn a b x), π) := by
  unfold m_is_within g_is_within
  simp only [mOf, mOfZ, mOfR, asRt, entry, List.length_cons, List.length_nil, List.replicate, List.cons_append, List.nil_append, Nat.reduceAdd, Nat.reduceSub, fV, fVx, fC, fB, fBN, fU, fUN, fL, fIsi, fAndV, fOrV, fNotV, fTv, asB, asL, asT, fNotT, fAndT, fOrT, fIf, fIfN, fCh, fCl, fClN, aNil, aD, aN, aP, fNil, fCons, fTup, fLst, sNil, sSeq, sSet, sSetM, sRet, sRetN, sIf, sBrk, sCnt, sDrop, sFor, rSeq, sFrz, iL, iT, iS, iE, iZ, oNone, oSome, fSlA, fSlL, fPot, sPot, gPot, sPotN, List.getElem?_cons_zero, List.getElem?_cons_succ, List.set_cons_zero, List.set_cons_succ, Option.bind_some, Option.map_some, Option.bind_none, Option.map_none, List.all_cons, List.all_nil, Sl.dp, Bool.and_true, Bool.true_and, and_self, and_true, true_and, if_true, if_false, ite_true, ite_false, Bool.false_eq_true, reduceCtorEq, reduceIte, Bool.not_true, Bool.not_false, gEq_str, gEq_int, gAdd_int, le_line, Nat.reduceLeDiff, Nat.reduceEqDiff, ne_eq, not_false_eq_true, cast_2, cast_3, cast_4, cast_5, cast_1, cast_0, eq_self, decide_true, decide_false, e_is_integer]
  cases x with
  | int i =>
    simp [dInt, gLe, gCmp, dIn]
    by_cases h : a ≤ i <;> simp [h]
  | _ => simp [dInt, dIn]
def dTupN (n : Int) : PyData → Bool
  | .tuple xs => decide ((xs.length : Int) = n)
  | _ => false
theorem e_is_tuple (x : PyData) (n : Int) (π : Pt) : m_is_tuple [.d x, .d (.int n)] π = some (.bool (dTupN n x), π) := by
  unfold m_is_tuple g_is_tuple
  simp only [mOf, mOfZ, mOfR, asRt, entry, List.length_cons, List.length_nil, List.replicate, List.cons_append, List.nil_append, Nat.reduceAdd, Nat.reduceSub, fV, fVx, fC, fB, fBN, fU, fUN, fL, fIsi, fAndV, fOrV, fNotV, fTv, asB, asL, asT, fNotT, fAndT, fOrT, fIf, fIfN, fCh, fCl, fClN, aNil, aD, aN, aP, fNil, fCons, fTup, fLst, sNil, sSeq, sSet, sSetM, sRet, sRetN, sIf, sBrk, sCnt, sDrop, sFor, rSeq, sFrz, iL, iT, iS, iE, iZ, oNone, oSome, fSlA, fSlL, fPot, sPot, gPot, sPotN, List.getElem?_cons_zero, List.getElem?_cons_succ, List.set_cons_zero, List.set_cons_succ, Option.bind_some, Option.map_some, Option.bind_none, Option.map_none, List.all_cons, List.all_nil, Sl.dp, Bool.and_true, Bool.true_and, and_self, and_true, true_and, if_true, if_false, ite_true, ite_false, Bool.false_eq_true, reduceCtorEq, reduceIte, Bool.not_true, Bool.not_false, gEq_str, gEq_int, gAdd_int, le_line, Nat.reduceLeDiff, Nat.reduceEqDiff, ne_eq, not_false_eq_true, cast_2, cast_3, cast_4, cast_5, cast_1, cast_0, eq_self, decide_true, decide_false, isi_tuple]
  cases x <;> simp [dTup, dTupN, gLen, gEq_int]
def dStand (p : Int) : PyData → Bool
  | .tuple xs => decide ((xs.length : Int) = p) && xs.all (dIn 0 9)
  | _ => false
theorem e_is_standing_of (x : PyData) (p : Int) (π : Pt) (h : ∀ xs, x = .tuple xs → xs.length ≤ sizeLine) : m_is_standing_of [.d x, .d (.int p)] π = some (.bool (dStand p x), π) := by
  unfold m_is_standing_of g_is_standing_of
  simp only [mOf, mOfZ, mOfR, asRt, entry, List.length_cons, List.length_nil, List.replicate, List.cons_append, List.nil_append, Nat.reduceAdd, Nat.reduceSub, fV, fVx, fC, fB, fBN, fU, fUN, fL, fIsi, fAndV, fOrV, fNotV, fTv, asB, asL, asT, fNotT, fAndT, fOrT, fIf, fIfN, fCh, fCl, fClN, aNil, aD, aN, aP, fNil, fCons, fTup, fLst, sNil, sSeq, sSet, sSetM, sRet, sRetN, sIf, sBrk, sCnt, sDrop, sFor, rSeq, sFrz, iL, iT, iS, iE, iZ, oNone, oSome, fSlA, fSlL, fPot, sPot, gPot, sPotN, List.getElem?_cons_zero, List.getElem?_cons_succ, List.set_cons_zero, List.set_cons_succ, Option.bind_some, Option.map_some, Option.bind_none, Option.map_none, List.all_cons, List.all_nil, Sl.dp, Bool.and_true, Bool.true_and, and_self, and_true, true_and, if_true, if_false, ite_true, ite_false, Bool.false_eq_true, reduceCtorEq, reduceIte, Bool.not_true, Bool.not_false, gEq_str, gEq_int, gAdd_int, le_line, Nat.reduceLeDiff, Nat.reduceEqDiff, ne_eq, not_false_eq_true, cast_2, cast_3, cast_4, cast_5, cast_1, cast_0, eq_self, decide_true, decide_false, e_is_tuple]
  cases x with
  | tuple xs =>
    have hl := h xs rfl
    simp only [dTupN, dStand]
    by_cases hp : (xs.length : Int) = p
    · rw [fLc_map (ds := xs) (π1 := π) (fun x => .bool (dIn 0 9 x))]
      · simp [hp, gAll_map]
      · rfl
      · exact hl
      · exact fun x hx => ⟨_, rfl, rfl, by simp only [mOf, mOfZ, mOfR, asRt, entry, List.length_cons, List.length_nil, List.replicate, List.cons_append, List.nil_append, Nat.reduceAdd, Nat.reduceSub, fV, fVx, fC, fB, fBN, fU, fUN, fL, fIsi, fAndV, fOrV, fNotV, fTv, asB, asL, asT, fNotT, fAndT, fOrT, fIf, fIfN, fCh, fCl, fClN, aNil, aD, aN, aP, fNil, fCons, fTup, fLst, sNil, sSeq, sSet, sSetM, sRet, sRetN, sIf, sBrk, sCnt, sDrop, sFor, rSeq, sFrz, iL, iT, iS, iE, iZ, oNone, oSome, fSlA, fSlL, fPot, sPot, gPot, sPotN, List.getElem?_cons_zero, List.getElem?_cons_succ, List.set_cons_zero, List.set_cons_succ, Option.bind_some, Option.map_some, Option.bind_none, Option.map_none, List.all_cons, List.all_nil, Sl.dp, Bool.and_true, Bool.true_and, and_self, and_true, true_and, if_true, if_false, ite_true, ite_false, Bool.false_eq_true, reduceCtorEq, reduceIte, Bool.not_true, Bool.not_false, gEq_str, gEq_int, gAdd_int, le_line, Nat.reduceLeDiff, Nat.reduceEqDiff, ne_eq, not_false_eq_true, cast_2, cast_3, cast_4, cast_5, cast_1, cast_0, eq_self, decide_true, decide_false, wipeE, e_is_within]⟩
    · simp [hp]
  | _ => simp [dTupN, dStand]

theorem e_are_rising (ns : List Int) (π : Pt) (h : ns.length ≤ sizeLine) : m_are_rising [.d (.tuple (ns.map PyData.int))] π = some (.bool (riseI ns), π) := by
  unfold m_are_rising g_are_rising
  simp only [mOf, mOfZ, mOfR, asRt, entry, List.length_cons, List.length_nil, List.replicate, List.cons_append, List.nil_append, Nat.reduceAdd, Nat.reduceSub, fV, fVx, fC, fB, fBN, fU, fUN, fL, fIsi, fAndV, fOrV, fNotV, fTv, asB, asL, asT, fNotT, fAndT, fOrT, fIf, fIfN, fCh, fCl, fClN, aNil, aD, aN, aP, fNil, fCons, fTup, fLst, sNil, sSeq, sSet, sSetM, sRet, sRetN, sIf, sBrk, sCnt, sDrop, sFor, rSeq, sFrz, iL, iT, iS, iE, iZ, oNone, oSome, fSlA, fSlL, fPot, sPot, gPot, sPotN, List.getElem?_cons_zero, List.getElem?_cons_succ, List.set_cons_zero, List.set_cons_succ, Option.bind_some, Option.map_some, Option.bind_none, Option.map_none, List.all_cons, List.all_nil, Sl.dp, Bool.and_true, Bool.true_and, and_self, and_true, true_and, if_true, if_false, ite_true, ite_false, Bool.false_eq_true, reduceCtorEq, reduceIte, Bool.not_true, Bool.not_false, gEq_str, gEq_int, gAdd_int, le_line, Nat.reduceLeDiff, Nat.reduceEqDiff, ne_eq, not_false_eq_true, cast_2, cast_3, cast_4, cast_5, cast_1, cast_0, eq_self, decide_true, decide_false]
  rw [fLc_map (ds := pairs (ns.map PyData.int) ((ns.drop 1).map PyData.int)) (π1 := π) (fun x => match x with | .tuple [.int a, .int b] => .bool (decide (a < b)) | _ => .none)]
  · have e : (pairs (ns.map PyData.int) ((ns.drop 1).map PyData.int)).map (fun x => match x with | .tuple [.int a, .int b] => PyData.bool (decide (a < b)) | _ => .none) = (ns.zip (ns.drop 1)).map fun p => PyData.bool (decide (p.1 < p.2)) := by
      unfold pairs
      rw [List.zip_map, List.map_map, List.map_map]
      rfl
    simp only [Option.map_some, Option.bind_some]
    rw [e, gAll_map, riseI_zip]
    rfl
  · simp only [mOf, mOfZ, mOfR, asRt, entry, List.length_cons, List.length_nil, List.replicate, List.cons_append, List.nil_append, Nat.reduceAdd, Nat.reduceSub, fV, fVx, fC, fB, fBN, fU, fUN, fL, fIsi, fAndV, fOrV, fNotV, fTv, asB, asL, asT, fNotT, fAndT, fOrT, fIf, fIfN, fCh, fCl, fClN, aNil, aD, aN, aP, fNil, fCons, fTup, fLst, sNil, sSeq, sSet, sSetM, sRet, sRetN, sIf, sBrk, sCnt, sDrop, sFor, rSeq, sFrz, iL, iT, iS, iE, iZ, oNone, oSome, fSlA, fSlL, fPot, sPot, gPot, sPotN, List.getElem?_cons_zero, List.getElem?_cons_succ, List.set_cons_zero, List.set_cons_succ, Option.bind_some, Option.map_some, Option.bind_none, Option.map_none, List.all_cons, List.all_nil, Sl.dp, Bool.and_true, Bool.true_and, and_self, and_true, true_and, if_true, if_false, ite_true, ite_false, Bool.false_eq_true, reduceCtorEq, reduceIte, Bool.not_true, Bool.not_false, gEq_str, gEq_int, gAdd_int, le_line, Nat.reduceLeDiff, Nat.reduceEqDiff, ne_eq, not_false_eq_true, cast_2, cast_3, cast_4, cast_5, cast_1, cast_0, eq_self, decide_true, decide_false]
    have e : cutD (ns.map PyData.int) (some 1) none = (ns.drop 1).map PyData.int := by
      rw [List.map_drop]; exact cutD_from _ 1
    rw [e]
  · unfold pairs
    rw [List.length_map, List.length_zip, List.length_map, List.length_map]
    omega
  · intro x hx
    unfold pairs at hx
    rw [List.zip_map, List.map_map] at hx
    obtain ⟨⟨a, b⟩, _, rfl⟩ := List.mem_map.mp hx
    exact ⟨_, rfl, rfl, by simp only [mOf, mOfZ, mOfR, asRt, entry, List.length_cons, List.length_nil, List.replicate, List.cons_append, List.nil_append, Nat.reduceAdd, Nat.reduceSub, fV, fVx, fC, fB, fBN, fU, fUN, fL, fIsi, fAndV, fOrV, fNotV, fTv, asB, asL, asT, fNotT, fAndT, fOrT, fIf, fIfN, fCh, fCl, fClN, aNil, aD, aN, aP, fNil, fCons, fTup, fLst, sNil, sSeq, sSet, sSetM, sRet, sRetN, sIf, sBrk, sCnt, sDrop, sFor, rSeq, sFrz, iL, iT, iS, iE, iZ, oNone, oSome, fSlA, fSlL, fPot, sPot, gPot, sPotN, List.getElem?_cons_zero, List.getElem?_cons_succ, List.set_cons_zero, List.set_cons_succ, Option.bind_some, Option.map_some, Option.bind_none, Option.map_none, List.all_cons, List.all_nil, Sl.dp, Bool.and_true, Bool.true_and, and_self, and_true, true_and, if_true, if_false, ite_true, ite_false, Bool.false_eq_true, reduceCtorEq, reduceIte, Bool.not_true, Bool.not_false, gEq_str, gEq_int, gAdd_int, le_line, Nat.reduceLeDiff, Nat.reduceEqDiff, ne_eq, not_false_eq_true, cast_2, cast_3, cast_4, cast_5, cast_1, cast_0, eq_self, decide_true, decide_false, wipeE, gLt, gCmp]; rfl⟩
def dPlaces (p : Int) : PyData → Bool
  | .tuple xs => xs.all (dIn 0 (p - 1)) && (match ints? xs with
    | some ns => riseI ns
    | none => false)
  | _ => false
theorem dPlaces_ints (p : Int) (ns : List Int) (h : ∀ n ∈ ns, 0 ≤ n ∧ n ≤ p - 1) : dPlaces p (.tuple (ns.map PyData.int)) = riseI ns := by
  have e : (ns.map PyData.int).all (dIn 0 (p - 1)) = true := by
    rw [List.all_eq_true]
    intro x hx
    obtain ⟨n, hn, rfl⟩ := List.mem_map.mp hx
    have := h n hn
    simp [dIn, this.1]
    omega
  simp only [dPlaces, e, ints_map, Bool.true_and]
theorem e_are_places (x : PyData) (p : Int) (π : Pt) (h : ∀ xs, x = .tuple xs → xs.length ≤ sizeLine) : m_are_places [.d x, .d (.int p)] π = some (.bool (dPlaces p x), π) := by
  unfold m_are_places g_are_places
  simp only [mOf, mOfZ, mOfR, asRt, entry, List.length_cons, List.length_nil, List.replicate, List.cons_append, List.nil_append, Nat.reduceAdd, Nat.reduceSub, fV, fVx, fC, fB, fBN, fU, fUN, fL, fIsi, fAndV, fOrV, fNotV, fTv, asB, asL, asT, fNotT, fAndT, fOrT, fIf, fIfN, fCh, fCl, fClN, aNil, aD, aN, aP, fNil, fCons, fTup, fLst, sNil, sSeq, sSet, sSetM, sRet, sRetN, sIf, sBrk, sCnt, sDrop, sFor, rSeq, sFrz, iL, iT, iS, iE, iZ, oNone, oSome, fSlA, fSlL, fPot, sPot, gPot, sPotN, List.getElem?_cons_zero, List.getElem?_cons_succ, List.set_cons_zero, List.set_cons_succ, Option.bind_some, Option.map_some, Option.bind_none, Option.map_none, List.all_cons, List.all_nil, Sl.dp, Bool.and_true, Bool.true_and, and_self, and_true, true_and, if_true, if_false, ite_true, ite_false, Bool.false_eq_true, reduceCtorEq, reduceIte, Bool.not_true, Bool.not_false, gEq_str, gEq_int, gAdd_int, le_line, Nat.reduceLeDiff, Nat.reduceEqDiff, ne_eq, not_false_eq_true, cast_2, cast_3, cast_4, cast_5, cast_1, cast_0, eq_self, decide_true, decide_false, isi_tuple]
  cases x with
  | tuple xs =>
    have hl := h xs rfl
    simp only [dTup, if_true]
    rw [fLc_map (ds := xs) (π1 := π) (fun x => .bool (dIn 0 (p - 1) x))]
    · simp only [Option.map_some, Option.bind_some, gAll_map]
      by_cases ha : xs.all (dIn 0 (p - 1)) = true
      · obtain ⟨ns, rfl, q⟩ := allIn_ints ha
        rw [List.length_map] at hl
        simp only [ha, if_true]
        simp only [mOf, mOfZ, mOfR, asRt, entry, List.length_cons, List.length_nil, List.replicate, List.cons_append, List.nil_append, Nat.reduceAdd, Nat.reduceSub, fV, fVx, fC, fB, fBN, fU, fUN, fL, fIsi, fAndV, fOrV, fNotV, fTv, asB, asL, asT, fNotT, fAndT, fOrT, fIf, fIfN, fCh, fCl, fClN, aNil, aD, aN, aP, fNil, fCons, fTup, fLst, sNil, sSeq, sSet, sSetM, sRet, sRetN, sIf, sBrk, sCnt, sDrop, sFor, rSeq, sFrz, iL, iT, iS, iE, iZ, oNone, oSome, fSlA, fSlL, fPot, sPot, gPot, sPotN, List.getElem?_cons_zero, List.getElem?_cons_succ, List.set_cons_zero, List.set_cons_succ, Option.bind_some, Option.map_some, Option.bind_none, Option.map_none, List.all_cons, List.all_nil, Sl.dp, Bool.and_true, Bool.true_and, and_self, and_true, true_and, if_true, if_false, ite_true, ite_false, Bool.false_eq_true, reduceCtorEq, reduceIte, Bool.not_true, Bool.not_false, gEq_str, gEq_int, gAdd_int, le_line, Nat.reduceLeDiff, Nat.reduceEqDiff, ne_eq, not_false_eq_true, cast_2, cast_3, cast_4, cast_5, cast_1, cast_0, eq_self, decide_true, decide_false, e_are_rising ns π hl, dPlaces_ints p ns q]
      · simp [ha, dPlaces]
    · rfl
    · exact hl
    · exact fun x hx => ⟨_, rfl, rfl, by simp only [mOf, mOfZ, mOfR, asRt, entry, List.length_cons, List.length_nil, List.replicate, List.cons_append, List.nil_append, Nat.reduceAdd, Nat.reduceSub, fV, fVx, fC, fB, fBN, fU, fUN, fL, fIsi, fAndV, fOrV, fNotV, fTv, asB, asL, asT, fNotT, fAndT, fOrT, fIf, fIfN, fCh, fCl, fClN, aNil, aD, aN, aP, fNil, fCons, fTup, fLst, sNil, sSeq, sSet, sSetM, sRet, sRetN, sIf, sBrk, sCnt, sDrop, sFor, rSeq, sFrz, iL, iT, iS, iE, iZ, oNone, oSome, fSlA, fSlL, fPot, sPot, gPot, sPotN, List.getElem?_cons_zero, List.getElem?_cons_succ, List.set_cons_zero, List.set_cons_succ, Option.bind_some, Option.map_some, Option.bind_none, Option.map_none, List.all_cons, List.all_nil, Sl.dp, Bool.and_true, Bool.true_and, and_self, and_true, true_and, if_true, if_false, ite_true, ite_false, Bool.false_eq_true, reduceCtorEq, reduceIte, Bool.not_true, Bool.not_false, gEq_str, gEq_int, gAdd_int, le_line, Nat.reduceLeDiff, Nat.reduceEqDiff, ne_eq, not_false_eq_true, cast_2, cast_3, cast_4, cast_5, cast_1, cast_0, eq_self, decide_true, decide_false, wipeE, e_is_within, gSubI]⟩
  | _ => simp [dTup, dPlaces]
abbrev LET : Str := "abcdefghijklmnopqrstuvwxyz"
abbrev SIG : Str := "abcdefghijklmnopqrstuvwxyz0123456789_"
def pS : PyData → Bool
  | .str s => inS s SIG
  | _ => false
def nameB (z : Str) : Bool := decide (z.length ≤ 12) && (match z.cps.toList[0]? with
  | some c => inS ⟨#[c]⟩ LET
  | none => false) && (signs z).all pS
def dName : PyData → Bool
  | .str z => nameB z
  | _ => false
theorem sig_eq : LET ++ ("0123456789_" : Str) = SIG := by decide +kernel
theorem signs_len (z : Str) : (signs z).length = z.length := by
  unfold signs
  rw [List.length_map, strLen]
theorem e_is_name (x : PyData) (π : Pt) (h : ∀ z, x = .str z → z.length ≤ sizeLine) : m_is_name [.d x] π = some (.bool (dName x), π) := by
  unfold m_is_name g_is_name
  simp only [mOf, mOfZ, mOfR, asRt, entry, List.length_cons, List.length_nil, List.replicate, List.cons_append, List.nil_append, Nat.reduceAdd, Nat.reduceSub, fV, fVx, fC, fB, fBN, fU, fUN, fL, fIsi, fAndV, fOrV, fNotV, fTv, asB, asL, asT, fNotT, fAndT, fOrT, fIf, fIfN, fCh, fCl, fClN, aNil, aD, aN, aP, fNil, fCons, fTup, fLst, sNil, sSeq, sSet, sSetM, sRet, sRetN, sIf, sBrk, sCnt, sDrop, sFor, rSeq, sFrz, iL, iT, iS, iE, iZ, oNone, oSome, fSlA, fSlL, fPot, sPot, gPot, sPotN, List.getElem?_cons_zero, List.getElem?_cons_succ, List.set_cons_zero, List.set_cons_succ, Option.bind_some, Option.map_some, Option.bind_none, Option.map_none, List.all_cons, List.all_nil, Sl.dp, Bool.and_true, Bool.true_and, and_self, and_true, true_and, if_true, if_false, ite_true, ite_false, Bool.false_eq_true, reduceCtorEq, reduceIte, Bool.not_true, Bool.not_false, gEq_str, gEq_int, gAdd_int, le_line, Nat.reduceLeDiff, Nat.reduceEqDiff, ne_eq, not_false_eq_true, cast_2, cast_3, cast_4, cast_5, cast_1, cast_0, eq_self, decide_true, decide_false, isi_str]
  cases x with
  | str z =>
    have hl := h z rfl
    simp only [mOf, mOfZ, mOfR, asRt, entry, List.length_cons, List.length_nil, List.replicate, List.cons_append, List.nil_append, Nat.reduceAdd, Nat.reduceSub, fV, fVx, fC, fB, fBN, fU, fUN, fL, fIsi, fAndV, fOrV, fNotV, fTv, asB, asL, asT, fNotT, fAndT, fOrT, fIf, fIfN, fCh, fCl, fClN, aNil, aD, aN, aP, fNil, fCons, fTup, fLst, sNil, sSeq, sSet, sSetM, sRet, sRetN, sIf, sBrk, sCnt, sDrop, sFor, rSeq, sFrz, iL, iT, iS, iE, iZ, oNone, oSome, fSlA, fSlL, fPot, sPot, gPot, sPotN, List.getElem?_cons_zero, List.getElem?_cons_succ, List.set_cons_zero, List.set_cons_succ, Option.bind_some, Option.map_some, Option.bind_none, Option.map_none, List.all_cons, List.all_nil, Sl.dp, Bool.and_true, Bool.true_and, and_self, and_true, true_and, if_true, if_false, ite_true, ite_false, Bool.false_eq_true, reduceCtorEq, reduceIte, Bool.not_true, Bool.not_false, gEq_str, gEq_int, gAdd_int, le_line, Nat.reduceLeDiff, Nat.reduceEqDiff, ne_eq, not_false_eq_true, cast_2, cast_3, cast_4, cast_5, cast_1, cast_0, eq_self, decide_true, decide_false, dStr, gLen, hl, gLe, gCmp, gIx]
    by_cases h1 : (1 : Int) ≤ (z.length : Int)
    · by_cases h2 : (z.length : Int) ≤ 12
      · rw [strLen] at h1
        cases hz : z.cps.toList with
        | nil => rw [hz] at h1; simp at h1
        | cons c r =>
          rw [← strLen] at h1
          have h2' : z.length ≤ 12 := by omega
          simp only [h1, h2, decide_true, atI_0, hz, List.getElem?_cons_zero, Option.map_some, Option.bind_some, if_true, Bool.not_true, Bool.false_eq_true, if_false, gIn]
          cases hin : inS ⟨#[c]⟩ LET with
          | true =>
            simp only [mOf, mOfZ, mOfR, asRt, entry, List.length_cons, List.length_nil, List.replicate, List.cons_append, List.nil_append, Nat.reduceAdd, Nat.reduceSub, fV, fVx, fC, fB, fBN, fU, fUN, fL, fIsi, fAndV, fOrV, fNotV, fTv, asB, asL, asT, fNotT, fAndT, fOrT, fIf, fIfN, fCh, fCl, fClN, aNil, aD, aN, aP, fNil, fCons, fTup, fLst, sNil, sSeq, sSet, sSetM, sRet, sRetN, sIf, sBrk, sCnt, sDrop, sFor, rSeq, sFrz, iL, iT, iS, iE, iZ, oNone, oSome, fSlA, fSlL, fPot, sPot, gPot, sPotN, List.getElem?_cons_zero, List.getElem?_cons_succ, List.set_cons_zero, List.set_cons_succ, Option.bind_some, Option.map_some, Option.bind_none, Option.map_none, List.all_cons, List.all_nil, Sl.dp, Bool.and_true, Bool.true_and, and_self, and_true, true_and, if_true, if_false, ite_true, ite_false, Bool.false_eq_true, reduceCtorEq, reduceIte, Bool.not_true, Bool.not_false, gEq_str, gEq_int, gAdd_int, le_line, Nat.reduceLeDiff, Nat.reduceEqDiff, ne_eq, not_false_eq_true, cast_2, cast_3, cast_4, cast_5, cast_1, cast_0, eq_self, decide_true, decide_false]
            rw [fLc_map (ds := signs z) (π1 := π) (fun x => .bool (pS x))]
            · simp only [Option.map_some, Option.bind_some, gAll_map, dName, nameB, h2', hz, List.getElem?_cons_zero, hin, decide_true, Bool.true_and]
            · rfl
            · rw [signs_len]; exact hl
            · intro x hx
              unfold signs at hx
              obtain ⟨c, hc, rfl⟩ := List.mem_map.mp hx
              exact ⟨_, rfl, rfl, by simp only [mOf, mOfZ, mOfR, asRt, entry, List.length_cons, List.length_nil, List.replicate, List.cons_append, List.nil_append, Nat.reduceAdd, Nat.reduceSub, fV, fVx, fC, fB, fBN, fU, fUN, fL, fIsi, fAndV, fOrV, fNotV, fTv, asB, asL, asT, fNotT, fAndT, fOrT, fIf, fIfN, fCh, fCl, fClN, aNil, aD, aN, aP, fNil, fCons, fTup, fLst, sNil, sSeq, sSet, sSetM, sRet, sRetN, sIf, sBrk, sCnt, sDrop, sFor, rSeq, sFrz, iL, iT, iS, iE, iZ, oNone, oSome, fSlA, fSlL, fPot, sPot, gPot, sPotN, List.getElem?_cons_zero, List.getElem?_cons_succ, List.set_cons_zero, List.set_cons_succ, Option.bind_some, Option.map_some, Option.bind_none, Option.map_none, List.all_cons, List.all_nil, Sl.dp, Bool.and_true, Bool.true_and, and_self, and_true, true_and, if_true, if_false, ite_true, ite_false, Bool.false_eq_true, reduceCtorEq, reduceIte, Bool.not_true, Bool.not_false, gEq_str, gEq_int, gAdd_int, le_line, Nat.reduceLeDiff, Nat.reduceEqDiff, ne_eq, not_false_eq_true, cast_2, cast_3, cast_4, cast_5, cast_1, cast_0, eq_self, decide_true, decide_false, wipeE, gIn, pS]⟩
          | false => simp [dName, nameB, hz, hin]
      · have h2' : ¬ z.length ≤ 12 := by omega
        simp [h1, h2, dName, nameB, h2']
    · have h0 : z.cps.toList = [] := List.length_eq_zero_iff.mp (by rw [← strLen]; omega)
      simp [h1, dName, nameB, h0]
  | _ => simp [dStr, dName]
def emptyT : PyData → Bool
  | .tuple [] => true
  | _ => false
def dTask3 (p : Int) (a b c : PyData) : Bool := match a with
  | .str z => (decide (z = "") || nameB z) && (dPlaces p b && (!emptyT b && dPlaces p c))
  | _ => false
def dTask (p : Int) : PyData → Bool
  | .tuple [a, b, c] => dTask3 p a b c
  | _ => false
theorem dTask_len (p : Int) {xs : List PyData} (h : xs.length ≠ 3) : dTask p (.tuple xs) = false := by
  match xs, h with
  | [], _ => rfl
  | [_], _ => rfl
  | [_, _], _ => rfl
  | [_, _, _], h => exact absurd rfl h
  | _ :: _ :: _ :: _ :: _, _ => rfl
theorem three {α : Type} {xs : List α} (h : xs.length = 3) : ∃ a b c, xs = [a, b, c] := by
  match xs, h with
  | [a, b, c], _ => exact ⟨a, b, c, rfl⟩
structure TaskH (x : PyData) : Prop where
  name : ∀ a b c z, x = .tuple [a, b, c] → a = .str z → z.length ≤ sizeLine ∧ PyData.strOk z = true
  one : ∀ a b c xs, x = .tuple [a, b, c] → b = .tuple xs → xs.length < 63
  two : ∀ a b c xs, x = .tuple [a, b, c] → c = .tuple xs → xs.length < 63
theorem lt_line {n : Nat} (h : n < 63) : n ≤ sizeLine := by rw [sizeLine_eq]; omega
theorem places_tup {p : Int} {b : PyData} (h : dPlaces p b = true) : ∃ ns : List Int, b = .tuple (ns.map PyData.int) := by
  cases b with
  | tuple xs =>
    simp only [dPlaces, Bool.and_eq_true] at h
    obtain ⟨ns, e, _⟩ := allIn_ints h.1
    exact ⟨ns, by rw [e]⟩
  | _ => simp [dPlaces] at h
theorem gEqT_nil (neg : Bool) (ns : List Int) : gEq neg (.tuple (ns.map PyData.int)) (.tuple []) = some (.bool (if neg = true then !emptyT (.tuple (ns.map PyData.int)) else emptyT (.tuple (ns.map PyData.int)))) := by
  have s2 : SeqAt.shaped (.tuple []) = true := by decide +kernel
  have e : PyData.eqv (.tuple (ns.map PyData.int)) (.tuple []) = emptyT (.tuple (ns.map PyData.int)) := by
    cases ns <;> simp [PyData.eqv, PyData.eqvAll, emptyT]
  simp only [gEq, shapedT_ints, s2, and_self, if_true, e]
theorem gEq_empty {p : Int} {b : PyData} (h : dPlaces p b = true) : gEq true b (.tuple []) = some (.bool (!emptyT b)) := by
  obtain ⟨ns, rfl⟩ := places_tup h
  rw [gEqT_nil]
  rfl
theorem gLen_places {p : Int} {b : PyData} (h : dPlaces p b = true) : ∃ n : Nat, gLen b = some (.int n) ∧ decide ((0 : Int) < n) = !emptyT b := by
  obtain ⟨ns, rfl⟩ := places_tup h
  refine ⟨_, rfl, ?_⟩
  cases ns <;> simp [emptyT]
theorem e_is_task (x : PyData) (p : Int) (π : Pt) (h : TaskH x) : m_is_task_of [.d x, .d (.int p)] π = some (.bool (dTask p x), π) := by
  unfold m_is_task_of g_is_task_of
  cases x with
  | tuple xs =>
    by_cases hlen : xs.length = 3
    · obtain ⟨a, b, c, rfl⟩ := three hlen
      have h3 : (([a, b, c] : List PyData).length : Int) = 3 := rfl
      simp only [dTask, dTask3]
      cases a with
      | str z =>
        obtain ⟨hz, _⟩ := h.name _ _ _ z rfl rfl
        have hb := fun xs e => lt_line (h.one _ _ _ xs rfl e)
        have hc := fun xs e => lt_line (h.two _ _ _ xs rfl e)
        have hn : ∀ w, (PyData.str z) = .str w → w.length ≤ sizeLine := fun w e => by cases e; exact hz
        have e1 := fun π => e_is_name (.str z) π hn
        have e2 := fun π => e_are_places b p π hb
        have e3 := fun π => e_are_places c p π hc
        cases h0 : decide (z = "") <;> cases hnm : nameB z <;> cases hpb : dPlaces p b
        all_goals first
          | (have e4 := gEq_empty hpb
             cases h4 : emptyT b <;> simp only [mOf, mOfZ, mOfR, asRt, entry, List.length_cons, List.length_nil, List.replicate, List.cons_append, List.nil_append, Nat.reduceAdd, Nat.reduceSub, fV, fVx, fC, fB, fBN, fU, fUN, fL, fIsi, fAndV, fOrV, fNotV, fTv, asB, asL, asT, fNotT, fAndT, fOrT, fIf, fIfN, fCh, fCl, fClN, aNil, aD, aN, aP, fNil, fCons, fTup, fLst, sNil, sSeq, sSet, sSetM, sRet, sRetN, sIf, sBrk, sCnt, sDrop, sFor, rSeq, sFrz, iL, iT, iS, iE, iZ, oNone, oSome, fSlA, fSlL, fPot, sPot, gPot, sPotN, List.getElem?_cons_zero, List.getElem?_cons_succ, List.set_cons_zero, List.set_cons_succ, Option.bind_some, Option.map_some, Option.bind_none, Option.map_none, List.all_cons, List.all_nil, Sl.dp, Bool.and_true, Bool.true_and, and_self, and_true, true_and, if_true, if_false, ite_true, ite_false, Bool.false_eq_true, reduceCtorEq, reduceIte, Bool.not_true, Bool.not_false, gEq_str, gEq_int, gAdd_int, le_line, Nat.reduceLeDiff, Nat.reduceEqDiff, ne_eq, not_false_eq_true, cast_2, cast_3, cast_4, cast_5, cast_1, cast_0, eq_self, decide_true, decide_false, e_is_tuple, dTupN, h3, decide_true, gIx_tup, atI_0, atI_1, atI_2, isi_str, dStr, e1, e2, e3, e4, dName, h0, hnm, hpb, h4, Bool.or_false, Bool.or_true, Bool.false_and, Bool.false_or])
          | simp only [mOf, mOfZ, mOfR, asRt, entry, List.length_cons, List.length_nil, List.replicate, List.cons_append, List.nil_append, Nat.reduceAdd, Nat.reduceSub, fV, fVx, fC, fB, fBN, fU, fUN, fL, fIsi, fAndV, fOrV, fNotV, fTv, asB, asL, asT, fNotT, fAndT, fOrT, fIf, fIfN, fCh, fCl, fClN, aNil, aD, aN, aP, fNil, fCons, fTup, fLst, sNil, sSeq, sSet, sSetM, sRet, sRetN, sIf, sBrk, sCnt, sDrop, sFor, rSeq, sFrz, iL, iT, iS, iE, iZ, oNone, oSome, fSlA, fSlL, fPot, sPot, gPot, sPotN, List.getElem?_cons_zero, List.getElem?_cons_succ, List.set_cons_zero, List.set_cons_succ, Option.bind_some, Option.map_some, Option.bind_none, Option.map_none, List.all_cons, List.all_nil, Sl.dp, Bool.and_true, Bool.true_and, and_self, and_true, true_and, if_true, if_false, ite_true, ite_false, Bool.false_eq_true, reduceCtorEq, reduceIte, Bool.not_true, Bool.not_false, gEq_str, gEq_int, gAdd_int, le_line, Nat.reduceLeDiff, Nat.reduceEqDiff, ne_eq, not_false_eq_true, cast_2, cast_3, cast_4, cast_5, cast_1, cast_0, eq_self, decide_true, decide_false, e_is_tuple, dTupN, h3, decide_true, gIx_tup, atI_0, atI_1, atI_2, isi_str, dStr, e1, e2, e3, dName, h0, hnm, hpb, Bool.or_false, Bool.or_true, Bool.false_and, Bool.false_or]
      | _ => simp only [mOf, mOfZ, mOfR, asRt, entry, List.length_cons, List.length_nil, List.replicate, List.cons_append, List.nil_append, Nat.reduceAdd, Nat.reduceSub, fV, fVx, fC, fB, fBN, fU, fUN, fL, fIsi, fAndV, fOrV, fNotV, fTv, asB, asL, asT, fNotT, fAndT, fOrT, fIf, fIfN, fCh, fCl, fClN, aNil, aD, aN, aP, fNil, fCons, fTup, fLst, sNil, sSeq, sSet, sSetM, sRet, sRetN, sIf, sBrk, sCnt, sDrop, sFor, rSeq, sFrz, iL, iT, iS, iE, iZ, oNone, oSome, fSlA, fSlL, fPot, sPot, gPot, sPotN, List.getElem?_cons_zero, List.getElem?_cons_succ, List.set_cons_zero, List.set_cons_succ, Option.bind_some, Option.map_some, Option.bind_none, Option.map_none, List.all_cons, List.all_nil, Sl.dp, Bool.and_true, Bool.true_and, and_self, and_true, true_and, if_true, if_false, ite_true, ite_false, Bool.false_eq_true, reduceCtorEq, reduceIte, Bool.not_true, Bool.not_false, gEq_str, gEq_int, gAdd_int, le_line, Nat.reduceLeDiff, Nat.reduceEqDiff, ne_eq, not_false_eq_true, cast_2, cast_3, cast_4, cast_5, cast_1, cast_0, eq_self, decide_true, decide_false, e_is_tuple, dTupN, h3, decide_true, gIx_tup, atI_0, isi_str, dStr]
    · have e : ¬ ((xs.length : Int) = 3) := by omega
      rw [dTask_len p hlen]
      simp only [mOf, mOfZ, mOfR, asRt, entry, List.length_cons, List.length_nil, List.replicate, List.cons_append, List.nil_append, Nat.reduceAdd, Nat.reduceSub, fV, fVx, fC, fB, fBN, fU, fUN, fL, fIsi, fAndV, fOrV, fNotV, fTv, asB, asL, asT, fNotT, fAndT, fOrT, fIf, fIfN, fCh, fCl, fClN, aNil, aD, aN, aP, fNil, fCons, fTup, fLst, sNil, sSeq, sSet, sSetM, sRet, sRetN, sIf, sBrk, sCnt, sDrop, sFor, rSeq, sFrz, iL, iT, iS, iE, iZ, oNone, oSome, fSlA, fSlL, fPot, sPot, gPot, sPotN, List.getElem?_cons_zero, List.getElem?_cons_succ, List.set_cons_zero, List.set_cons_succ, Option.bind_some, Option.map_some, Option.bind_none, Option.map_none, List.all_cons, List.all_nil, Sl.dp, Bool.and_true, Bool.true_and, and_self, and_true, true_and, if_true, if_false, ite_true, ite_false, Bool.false_eq_true, reduceCtorEq, reduceIte, Bool.not_true, Bool.not_false, gEq_str, gEq_int, gAdd_int, le_line, Nat.reduceLeDiff, Nat.reduceEqDiff, ne_eq, not_false_eq_true, cast_2, cast_3, cast_4, cast_5, cast_1, cast_0, eq_self, decide_true, decide_false, e_is_tuple, dTupN, e, decide_false]
  | _ => simp only [mOf, mOfZ, mOfR, asRt, entry, List.length_cons, List.length_nil, List.replicate, List.cons_append, List.nil_append, Nat.reduceAdd, Nat.reduceSub, fV, fVx, fC, fB, fBN, fU, fUN, fL, fIsi, fAndV, fOrV, fNotV, fTv, asB, asL, asT, fNotT, fAndT, fOrT, fIf, fIfN, fCh, fCl, fClN, aNil, aD, aN, aP, fNil, fCons, fTup, fLst, sNil, sSeq, sSet, sSetM, sRet, sRetN, sIf, sBrk, sCnt, sDrop, sFor, rSeq, sFrz, iL, iT, iS, iE, iZ, oNone, oSome, fSlA, fSlL, fPot, sPot, gPot, sPotN, List.getElem?_cons_zero, List.getElem?_cons_succ, List.set_cons_zero, List.set_cons_succ, Option.bind_some, Option.map_some, Option.bind_none, Option.map_none, List.all_cons, List.all_nil, Sl.dp, Bool.and_true, Bool.true_and, and_self, and_true, true_and, if_true, if_false, ite_true, ite_false, Bool.false_eq_true, reduceCtorEq, reduceIte, Bool.not_true, Bool.not_false, gEq_str, gEq_int, gAdd_int, le_line, Nat.reduceLeDiff, Nat.reduceEqDiff, ne_eq, not_false_eq_true, cast_2, cast_3, cast_4, cast_5, cast_1, cast_0, eq_self, decide_true, decide_false, e_is_tuple, dTupN, dTask]
theorem five {α : Type} {xs : List α} (h : xs.length = 5) : ∃ a b c d e, xs = [a, b, c, d, e] := by
  match xs, h with
  | [a, b, c, d, e], _ => exact ⟨a, b, c, d, e, rfl⟩
end Pg

set_option maxHeartbeats 2000000
namespace Pg
open PySem DL
set_option autoImplicit false
structure Tsk where
  nm : Str
  tk : List Int
  gv : List Int
abbrev Tsk.d (t : Tsk) : PyData := .tuple [.str t.nm, .tuple (t.tk.map PyData.int), .tuple (t.gv.map PyData.int)]
instance : Inhabited Tsk := ⟨⟨"", [], []⟩⟩
structure Sht where
  p : Int
  ts : List Tsk
  fs : List Int
  ls : List Int
abbrev tup (ns : List Int) : PyData := .tuple (ns.map PyData.int)
abbrev Sht.d (S : Sht) : PyData := .tuple [.str "sheet", .int S.p, .tuple (S.ts.map Tsk.d), tup S.fs, tup S.ls]
structure Tsk.Ok (p : Int) (t : Tsk) : Prop where
  nm : (decide (t.nm = "") || nameB t.nm) = true
  r1 : riseI t.tk = true
  i1 : ∀ n ∈ t.tk, 0 ≤ n ∧ n ≤ p - 1
  ne : t.tk ≠ []
  r2 : riseI t.gv = true
  i2 : ∀ n ∈ t.gv, 0 ≤ n ∧ n ≤ p - 1
structure Stand (p : Int) (hs : List Int) : Prop where
  len : (hs.length : Int) = p
  b : ∀ x ∈ hs, 0 ≤ x ∧ x ≤ 9
structure Sht.Ok (S : Sht) : Prop where
  p1 : 1 ≤ S.p
  p2 : S.p ≤ 16
  t1 : 1 ≤ S.ts.length
  t2 : S.ts.length ≤ 24
  tk : ∀ t ∈ S.ts, t.Ok S.p
  f : Stand S.p S.fs
  l : Stand S.p S.ls
/-- rising rows are short -/
theorem rise_len {q : Int} : ∀ {ns : List Int} {a : Int}, riseI ns = true → (∀ n ∈ ns, a ≤ n ∧ n ≤ q) → ns ≠ [] → (ns.length : Int) ≤ q - a + 1
  | [], _, _, _, h => absurd rfl h
  | [n], a, _, h, _ => by
    have := h n List.mem_cons_self
    simp only [List.length_cons, List.length_nil]
    omega
  | n :: m :: r, a, h, hb, _ => by
    simp only [riseI, Bool.and_eq_true, decide_eq_true_eq] at h
    have h1 := hb n List.mem_cons_self
    have lt := (riseI_lt (m :: r)).mp h.2
    have ih := rise_len (q := q) (ns := m :: r) (a := a + 1) h.2 (fun k hk => by
      have hk2 := hb k (List.mem_cons_of_mem _ hk)
      rcases List.mem_cons.mp hk with e | e
      · subst e; omega
      · have := (List.pairwise_cons.mp lt).1 k e
        omega) (by simp)
    rw [List.length_cons]
    omega
theorem rise_len16 {p : Int} {ns : List Int} (hp : p ≤ 16) (h : riseI ns = true) (hb : ∀ n ∈ ns, 0 ≤ n ∧ n ≤ p - 1) : ns.length ≤ 16 := by
  by_cases h0 : ns = []
  · rw [h0]; simp
  · have := rise_len (q := p - 1) (a := 0) h hb h0
    omega
theorem rise_nodup {ns : List Int} (h : riseI ns = true) : ns.Nodup := by
  have := (riseI_lt ns).mp h
  exact this.imp fun {a b} h => by omega
/-! names -/
theorem SIG_small : ∀ c ∈ SIG.cps.toList, c < 0x110000 := by decide +kernel
theorem inS_sig {s : Str} (h : inS s SIG = true) (hl : s.cps.toList.length = 1) : PyData.strOk s = true := by
  unfold inS at h
  obtain ⟨c, hc⟩ : ∃ c, s.cps.toList = [c] := List.length_eq_one_iff.mp hl
  rw [hc] at h
  have h1 : c ∈ SIG.cps.toList := of_decide_eq_true h
  have h2 := SIG_small c h1
  show s.cps.all (· < 0x110000) = true
  rw [Array.all_eq_true_iff_forall_mem]
  intro x hx
  have hx2 : x ∈ s.cps.toList := Array.mem_toList_iff.mpr hx
  rw [hc, List.mem_singleton] at hx2
  rw [hx2]
  exact decide_eq_true h2
theorem name_ok {z : Str} (h : (decide (z = "") || nameB z) = true) : PyData.strOk z = true ∧ z.length ≤ 12 := by
  rcases Bool.or_eq_true_iff.mp h with h | h
  · have e := of_decide_eq_true h
    rw [e]
    exact ⟨by decide +kernel, by decide +kernel⟩
  · unfold nameB at h
    simp only [Bool.and_eq_true, decide_eq_true_eq] at h
    refine ⟨?_, h.1.1⟩
    show z.cps.all (· < 0x110000) = true
    rw [Array.all_eq_true_iff_forall_mem]
    intro x hx
    have hx2 : x ∈ z.cps.toList := Array.mem_toList_iff.mpr hx
    have h2 := List.all_eq_true.mp h.2 (.str ⟨#[x]⟩) (by unfold signs; exact List.mem_map.mpr ⟨x, hx2, rfl⟩)
    have h3 := inS_sig (s := ⟨#[x]⟩) h2 rfl
    have h4 : (#[x] : Array _).all (· < 0x110000) = true := h3
    simpa using h4
section
variable {p : Int} {t : Tsk} {hs : List Int} {S : Sht}
theorem Tsk.Ok.l1 (h : t.Ok p) (hp : p ≤ 16) : t.tk.length ≤ 16 := rise_len16 hp h.r1 h.i1
theorem Tsk.Ok.l2 (h : t.Ok p) (hp : p ≤ 16) : t.gv.length ≤ 16 := rise_len16 hp h.r2 h.i2
theorem ints_bs {ns : List Int} (hl : ns.length ≤ 16) (h : ∀ n ∈ ns, -100 ≤ n ∧ n ≤ 100) : Bs 1104 1 (tup ns) := by
  have q := Bss.ints (n := 16) (fun n hn => by have := h n hn; omega) hl
  exact Bs.tup q
theorem Tsk.Ok.bs (h : t.Ok p) (hp : p ≤ 16) : Bs 2223 2 t.d := by
  obtain ⟨h1, h2⟩ := name_ok h.nm
  have b1 := ints_bs (h.l1 hp) fun n hn => by have := h.i1 n hn; omega
  have b2 := ints_bs (h.l2 hp) fun n hn => by have := h.i2 n hn; omega
  exact (Bs.tup (Bss.cons (Bs.str h1 h2) (Bss.cons b1 (Bss.one b2)))).mono (by decide) (by decide)
theorem Stand.bs (h : Stand p hs) (hp : p ≤ 16) : Bs 1104 1 (tup hs) := ints_bs (by have := h.len; omega) fun n hn => by have := h.b n hn; omega
theorem Sht.Ok.bs (h : S.Ok) : Bs 60000 4 S.d := by
  have h1 := h.p1
  have h2 := h.p2
  have b0 : Bs 5 0 (.str "sheet") := bsB_ok (by decide +kernel)
  have b1 : Bs 68 0 (.int S.p) := Bs.sint (by omega) (by omega)
  have b2 : Bs (24 * 2224) 3 (.tuple (S.ts.map Tsk.d)) := Bs.tup (Bss.of (W := 2223) (D := 2) (fun x hx => by
    obtain ⟨t, ht, rfl⟩ := List.mem_map.mp hx
    exact (h.tk t ht).bs h2) (by rw [List.length_map]; exact h.t2))
  exact (Bs.tup (Bss.cons b0 (Bss.cons b1 (Bss.cons b2 (Bss.cons (h.f.bs h2) (Bss.one (h.l.bs h2))))))).mono (by decide) (by decide)
/-- the task r of a sheet -/
def Sht.T (S : Sht) (r : Int) : Tsk := S.ts.getD r.toNat default
theorem Sht.mem {r : Int} (h0 : 0 ≤ r) (h1 : r < S.ts.length) : S.T r ∈ S.ts := by
  have hr : r.toNat < S.ts.length := by omega
  unfold Sht.T
  rw [List.getD_eq_getElem?_getD, List.getElem?_eq_getElem hr]
  exact List.getElem_mem hr
theorem Sht.at_ {r : Int} (h0 : 0 ≤ r) (h1 : r < S.ts.length) : L2.atI (S.ts.map Tsk.d) r = some (S.T r).d := by
  have hr : r.toNat < S.ts.length := by omega
  unfold Sht.T
  rw [atI_pos _ h0, List.getElem?_map, List.getElem?_eq_getElem hr, List.getD_eq_getElem?_getD, List.getElem?_eq_getElem hr]
  rfl
theorem Sht.Ok.T (h : S.Ok) {r : Int} (h0 : 0 ≤ r) (h1 : r < S.ts.length) : (S.T r).Ok S.p := h.tk _ (Sht.mem h0 h1)
theorem Tsk.Ok.H (h : t.Ok p) (hp : p ≤ 16) : TaskH t.d := by
  obtain ⟨h1, h2⟩ := name_ok h.nm
  have l1 := h.l1 hp
  have l2 := h.l2 hp
  refine ⟨fun a b c z e ea => ?_, fun a b c xs e ea => ?_, fun a b c xs e ea => ?_⟩
  · unfold Tsk.d at e
    subst ea
    cases e
    exact ⟨by rw [sizeLine_eq]; omega, h1⟩
  · unfold Tsk.d at e
    subst ea
    cases e
    rw [List.length_map]; omega
  · unfold Tsk.d at e
    subst ea
    cases e
    rw [List.length_map]; omega
theorem Tsk.Ok.task (h : t.Ok p) : dTask p t.d = true := by
  have e1 := dPlaces_ints p t.tk h.i1
  have e2 := dPlaces_ints p t.gv h.i2
  have hn := h.nm
  unfold Tsk.d
  simp only [dTask, dTask3, hn, e1, e2, h.r1, h.r2, Bool.true_and, Bool.and_true]
  have := h.ne
  cases ht : t.tk with
  | nil => exact absurd ht this
  | cons a r => rfl
theorem Stand.d (h : Stand p hs) : dStand p (tup hs) = true := by
  have hl := h.len
  simp only [tup, dStand, List.length_map, hl, decide_true, Bool.true_and, List.all_eq_true]
  intro x hx
  obtain ⟨n, hn, rfl⟩ := List.mem_map.mp hx
  have := h.b n hn
  simp only [dIn, Bool.and_eq_true, decide_eq_true_eq]
  exact this
theorem e_is_standing (h : p ≤ 16) (g : Stand p hs) (π : Pt) : m_is_standing_of [.d (tup hs), .d (.int p)] π = some (.bool true, π) := by
  rw [e_is_standing_of (tup hs) p π fun xs e => by cases e; exact len_line (by rw [List.length_map]; have := g.len; omega), g.d]
theorem e_is_sheet (g : S.Ok) (π : Pt) : m_is_sheet [.d S.d] π = some (.bool true, π) := by
  have hp1 := g.p1
  have hp2 := g.p2
  have ht1 := g.t1
  have ht2 := g.t2
  have hn : dIn 1 16 (.int S.p) = true := by simp only [dIn, Bool.and_eq_true, decide_eq_true_eq]; omega
  have h1 : decide ((1 : Int) ≤ S.ts.length) = true := by rw [decide_eq_true_eq]; omega
  have h2 : decide ((S.ts.length : Int) ≤ 24) = true := by rw [decide_eq_true_eq]; omega
  have e3 := fun π => e_is_standing hp2 g.f π
  have e4 := fun π => e_is_standing hp2 g.l π
  have ha : (S.ts.map Tsk.d).all (dTask S.p) = true := by
    rw [List.all_eq_true]
    intro x hx
    obtain ⟨t, ht, rfl⟩ := List.mem_map.mp hx
    exact (g.tk t ht).task
  unfold m_is_sheet g_is_sheet Sht.d
  simp only [mOf, mOfZ, mOfR, asRt, entry, List.length_cons, List.length_nil, List.replicate, List.cons_append, List.nil_append, Nat.reduceAdd, Nat.reduceSub, fV, fVx, fC, fB, fBN, fU, fUN, fL, fIsi, fAndV, fOrV, fNotV, fTv, asB, asL, asT, fNotT, fAndT, fOrT, fIf, fIfN, fCh, fCl, fClN, aNil, aD, aN, aP, fNil, fCons, fTup, fLst, sNil, sSeq, sSet, sSetM, sRet, sRetN, sIf, sBrk, sCnt, sDrop, sFor, rSeq, sFrz, iL, iT, iS, iE, iZ, oNone, oSome, fSlA, fSlL, fPot, sPot, gPot, sPotN, List.getElem?_cons_zero, List.getElem?_cons_succ, List.set_cons_zero, List.set_cons_succ, Option.bind_some, Option.map_some, Option.bind_none, Option.map_none, List.all_cons, List.all_nil, Sl.dp, Bool.and_true, Bool.true_and, and_self, and_true, true_and, if_true, if_false, ite_true, ite_false, Bool.false_eq_true, reduceCtorEq, reduceIte, Bool.not_true, Bool.not_false, gEq_str, gEq_int, gAdd_int, le_line, Nat.reduceLeDiff, Nat.reduceEqDiff, ne_eq, not_false_eq_true, cast_2, cast_3, cast_4, cast_5, cast_1, cast_0, eq_self, decide_true, decide_false, e_is_tuple, dTupN, gIx_tup, atI_0, atI_1, atI_2, isi_str, isi_tuple, dTup, dStr, e_is_within, hn, gLen_tup, gLe, gCmp, h1, h2, List.length_map]
  rw [fLc_map (ds := S.ts.map Tsk.d) (π1 := π) (fun x => .bool (dTask S.p x))]
  · simp only [mOf, mOfZ, mOfR, asRt, entry, List.length_cons, List.length_nil, List.replicate, List.cons_append, List.nil_append, Nat.reduceAdd, Nat.reduceSub, fV, fVx, fC, fB, fBN, fU, fUN, fL, fIsi, fAndV, fOrV, fNotV, fTv, asB, asL, asT, fNotT, fAndT, fOrT, fIf, fIfN, fCh, fCl, fClN, aNil, aD, aN, aP, fNil, fCons, fTup, fLst, sNil, sSeq, sSet, sSetM, sRet, sRetN, sIf, sBrk, sCnt, sDrop, sFor, rSeq, sFrz, iL, iT, iS, iE, iZ, oNone, oSome, fSlA, fSlL, fPot, sPot, gPot, sPotN, List.getElem?_cons_zero, List.getElem?_cons_succ, List.set_cons_zero, List.set_cons_succ, Option.bind_some, Option.map_some, Option.bind_none, Option.map_none, List.all_cons, List.all_nil, Sl.dp, Bool.and_true, Bool.true_and, and_self, and_true, true_and, if_true, if_false, ite_true, ite_false, Bool.false_eq_true, reduceCtorEq, reduceIte, Bool.not_true, Bool.not_false, gEq_str, gEq_int, gAdd_int, le_line, Nat.reduceLeDiff, Nat.reduceEqDiff, ne_eq, not_false_eq_true, cast_2, cast_3, cast_4, cast_5, cast_1, cast_0, eq_self, decide_true, decide_false, gAll_map, ha, e3, e4, gIx_tup, atI_1, atI_3, atI_4]
  · simp only [mOf, mOfZ, mOfR, asRt, entry, List.length_cons, List.length_nil, List.replicate, List.cons_append, List.nil_append, Nat.reduceAdd, Nat.reduceSub, fV, fVx, fC, fB, fBN, fU, fUN, fL, fIsi, fAndV, fOrV, fNotV, fTv, asB, asL, asT, fNotT, fAndT, fOrT, fIf, fIfN, fCh, fCl, fClN, aNil, aD, aN, aP, fNil, fCons, fTup, fLst, sNil, sSeq, sSet, sSetM, sRet, sRetN, sIf, sBrk, sCnt, sDrop, sFor, rSeq, sFrz, iL, iT, iS, iE, iZ, oNone, oSome, fSlA, fSlL, fPot, sPot, gPot, sPotN, List.getElem?_cons_zero, List.getElem?_cons_succ, List.set_cons_zero, List.set_cons_succ, Option.bind_some, Option.map_some, Option.bind_none, Option.map_none, List.all_cons, List.all_nil, Sl.dp, Bool.and_true, Bool.true_and, and_self, and_true, true_and, if_true, if_false, ite_true, ite_false, Bool.false_eq_true, reduceCtorEq, reduceIte, Bool.not_true, Bool.not_false, gEq_str, gEq_int, gAdd_int, le_line, Nat.reduceLeDiff, Nat.reduceEqDiff, ne_eq, not_false_eq_true, cast_2, cast_3, cast_4, cast_5, cast_1, cast_0, eq_self, decide_true, decide_false, iA, gIx_tup, atI_2]
  · exact len_line (by rw [List.length_map]; omega)
  · intro x hx
    obtain ⟨t, ht, rfl⟩ := List.mem_map.mp hx
    have e5 := fun π => e_is_task t.d S.p π ((g.tk t ht).H hp2)
    exact ⟨_, rfl, rfl, by simp only [mOf, mOfZ, mOfR, asRt, entry, List.length_cons, List.length_nil, List.replicate, List.cons_append, List.nil_append, Nat.reduceAdd, Nat.reduceSub, fV, fVx, fC, fB, fBN, fU, fUN, fL, fIsi, fAndV, fOrV, fNotV, fTv, asB, asL, asT, fNotT, fAndT, fOrT, fIf, fIfN, fCh, fCl, fClN, aNil, aD, aN, aP, fNil, fCons, fTup, fLst, sNil, sSeq, sSet, sSetM, sRet, sRetN, sIf, sBrk, sCnt, sDrop, sFor, rSeq, sFrz, iL, iT, iS, iE, iZ, oNone, oSome, fSlA, fSlL, fPot, sPot, gPot, sPotN, List.getElem?_cons_zero, List.getElem?_cons_succ, List.set_cons_zero, List.set_cons_succ, Option.bind_some, Option.map_some, Option.bind_none, Option.map_none, List.all_cons, List.all_nil, Sl.dp, Bool.and_true, Bool.true_and, and_self, and_true, true_and, if_true, if_false, ite_true, ite_false, Bool.false_eq_true, reduceCtorEq, reduceIte, Bool.not_true, Bool.not_false, gEq_str, gEq_int, gAdd_int, le_line, Nat.reduceLeDiff, Nat.reduceEqDiff, ne_eq, not_false_eq_true, cast_2, cast_3, cast_4, cast_5, cast_1, cast_0, eq_self, decide_true, decide_false, wipeE, e5, gIx_tup, atI_1]⟩
theorem e_want_sheet (g : S.Ok) (π : Pt) : m_want_sheet [.d S.d] π = some (.none, π) := by
  unfold m_want_sheet g_want_sheet
  simp only [mOf, mOfZ, mOfR, asRt, entry, List.length_cons, List.length_nil, List.replicate, List.cons_append, List.nil_append, Nat.reduceAdd, Nat.reduceSub, fV, fVx, fC, fB, fBN, fU, fUN, fL, fIsi, fAndV, fOrV, fNotV, fTv, asB, asL, asT, fNotT, fAndT, fOrT, fIf, fIfN, fCh, fCl, fClN, aNil, aD, aN, aP, fNil, fCons, fTup, fLst, sNil, sSeq, sSet, sSetM, sRet, sRetN, sIf, sBrk, sCnt, sDrop, sFor, rSeq, sFrz, iL, iT, iS, iE, iZ, oNone, oSome, fSlA, fSlL, fPot, sPot, gPot, sPotN, List.getElem?_cons_zero, List.getElem?_cons_succ, List.set_cons_zero, List.set_cons_succ, Option.bind_some, Option.map_some, Option.bind_none, Option.map_none, List.all_cons, List.all_nil, Sl.dp, Bool.and_true, Bool.true_and, and_self, and_true, true_and, if_true, if_false, ite_true, ite_false, Bool.false_eq_true, reduceCtorEq, reduceIte, Bool.not_true, Bool.not_false, gEq_str, gEq_int, gAdd_int, le_line, Nat.reduceLeDiff, Nat.reduceEqDiff, ne_eq, not_false_eq_true, cast_2, cast_3, cast_4, cast_5, cast_1, cast_0, eq_self, decide_true, decide_false, e_is_sheet g]
end
end Pg

set_option maxHeartbeats 2000000
namespace Pg
open PySem DL
set_option autoImplicit false
def stepI (d : Int) (l : List Int) (n : Int) : List Int := l.set n.toNat (l.getD n.toNat 0 + d)
theorem stepI_len (d : Int) (l : List Int) (n : Int) : (stepI d l n).length = l.length := by unfold stepI; rw [List.length_set]
theorem foldI_len (d : Int) : ∀ (ns : List Int) (l : List Int), (ns.foldl (stepI d) l).length = l.length
  | [], _ => rfl
  | n :: ns, l => by rw [List.foldl_cons, foldI_len d ns, stepI_len]
theorem ixN_pos {k : Nat} {n : Int} (h0 : 0 ≤ n) (h1 : n < k) : L2.ixN k n = some n.toNat := by
  unfold L2.ixN
  rw [if_pos h0, if_pos h1]
theorem at_ints (l : List Int) {n : Int} (h0 : 0 ≤ n) (h1 : n < l.length) : L2.atI (l.map PyData.int) n = some (.int (l.getD n.toNat 0)) := by
  have hn : n.toNat < l.length := by omega
  rw [atI_pos _ h0, List.getElem?_map, List.getElem?_eq_getElem hn, List.getD_eq_getElem?_getD, List.getElem?_eq_getElem hn]
  rfl
theorem map_step (d : Int) (l : List Int) (n : Int) : (l.map PyData.int).set n.toNat (.int (l.getD n.toNat 0 + d)) = (stepI d l n).map PyData.int := by
  unfold stepI
  rw [List.map_set]
theorem loop_dec (s0 s1 s2 : Sl) (π : Pt) : ∀ (ns l : List Int) (s4 : Sl), (∀ n ∈ ns, 0 ≤ n ∧ n < l.length) → ∃ s4', forM (tName 4) (sSetIx 3 (fVx 4) (fB gSubI (fB gIx (fVx 3) (fVx 4)) (fC (.int 1)))) (ns.map PyData.int) [s0, s1, s2, .m (l.map PyData.int), s4] π = some (.nx [s0, s1, s2, .m ((ns.foldl (stepI (-1)) l).map PyData.int), s4'], π)
  | [], l, s4, _ => ⟨s4, rfl⟩
  | n :: ns, l, s4, h => by
    obtain ⟨h0, h1⟩ := h n List.mem_cons_self
    obtain ⟨s4', e⟩ := loop_dec s0 s1 s2 π ns (stepI (-1) l n) (.d (.int n)) fun m hm => by rw [stepI_len]; exact h m (List.mem_cons_of_mem _ hm)
    refine ⟨s4', ?_⟩
    have ix : L2.ixN (l.map PyData.int).length n = some n.toNat := by rw [List.length_map]; exact ixN_pos h0 h1
    have st := map_step (-1) l n
    rw [← Int.sub_eq_add_neg] at st
    rw [List.map_cons, List.foldl_cons]
    unfold DL.forM
    simp only [mOf, mOfZ, mOfR, asRt, entry, List.length_cons, List.length_nil, List.replicate, List.cons_append, List.nil_append, Nat.reduceAdd, Nat.reduceSub, fV, fVx, fC, fB, fBN, fU, fUN, fL, fIsi, fAndV, fOrV, fNotV, fTv, asB, asL, asT, fNotT, fAndT, fOrT, fIf, fIfN, fCh, fCl, fClN, aNil, aD, aN, aP, fNil, fCons, fTup, fLst, sNil, sSeq, sSet, sSetM, sRet, sRetN, sIf, sBrk, sCnt, sDrop, sFor, rSeq, sFrz, iL, iT, iS, iE, iZ, oNone, oSome, fSlA, fSlL, fPot, sPot, gPot, sPotN, List.getElem?_cons_zero, List.getElem?_cons_succ, List.set_cons_zero, List.set_cons_succ, Option.bind_some, Option.map_some, Option.bind_none, Option.map_none, List.all_cons, List.all_nil, Sl.dp, Bool.and_true, Bool.true_and, and_self, and_true, true_and, if_true, if_false, ite_true, ite_false, Bool.false_eq_true, reduceCtorEq, reduceIte, Bool.not_true, Bool.not_false, gEq_str, gEq_int, gAdd_int, le_line, Nat.reduceLeDiff, Nat.reduceEqDiff, ne_eq, not_false_eq_true, cast_2, cast_3, cast_4, cast_5, cast_1, cast_0, eq_self, decide_true, decide_false, tName, sSetIx, gIx_lst, at_ints l h0 h1, gSubI, ix, st, e]
theorem loop_inc (s0 s1 s2 : Sl) (π : Pt) : ∀ (ns l : List Int) (s4 : Sl), (∀ n ∈ ns, 0 ≤ n ∧ n < l.length) → ∃ s4', forM (tName 4) (sSetIx 3 (fVx 4) (fB gAdd (fB gIx (fVx 3) (fVx 4)) (fC (.int 1)))) (ns.map PyData.int) [s0, s1, s2, .m (l.map PyData.int), s4] π = some (.nx [s0, s1, s2, .m ((ns.foldl (stepI 1) l).map PyData.int), s4'], π)
  | [], l, s4, _ => ⟨s4, rfl⟩
  | n :: ns, l, s4, h => by
    obtain ⟨h0, h1⟩ := h n List.mem_cons_self
    obtain ⟨s4', e⟩ := loop_inc s0 s1 s2 π ns (stepI 1 l n) (.d (.int n)) fun m hm => by rw [stepI_len]; exact h m (List.mem_cons_of_mem _ hm)
    refine ⟨s4', ?_⟩
    have ix : L2.ixN (l.map PyData.int).length n = some n.toNat := by rw [List.length_map]; exact ixN_pos h0 h1
    have st := map_step 1 l n
    rw [List.map_cons, List.foldl_cons]
    unfold DL.forM
    simp only [mOf, mOfZ, mOfR, asRt, entry, List.length_cons, List.length_nil, List.replicate, List.cons_append, List.nil_append, Nat.reduceAdd, Nat.reduceSub, fV, fVx, fC, fB, fBN, fU, fUN, fL, fIsi, fAndV, fOrV, fNotV, fTv, asB, asL, asT, fNotT, fAndT, fOrT, fIf, fIfN, fCh, fCl, fClN, aNil, aD, aN, aP, fNil, fCons, fTup, fLst, sNil, sSeq, sSet, sSetM, sRet, sRetN, sIf, sBrk, sCnt, sDrop, sFor, rSeq, sFrz, iL, iT, iS, iE, iZ, oNone, oSome, fSlA, fSlL, fPot, sPot, gPot, sPotN, List.getElem?_cons_zero, List.getElem?_cons_succ, List.set_cons_zero, List.set_cons_succ, Option.bind_some, Option.map_some, Option.bind_none, Option.map_none, List.all_cons, List.all_nil, Sl.dp, Bool.and_true, Bool.true_and, and_self, and_true, true_and, if_true, if_false, ite_true, ite_false, Bool.false_eq_true, reduceCtorEq, reduceIte, Bool.not_true, Bool.not_false, gEq_str, gEq_int, gAdd_int, le_line, Nat.reduceLeDiff, Nat.reduceEqDiff, ne_eq, not_false_eq_true, cast_2, cast_3, cast_4, cast_5, cast_1, cast_0, eq_self, decide_true, decide_false, tName, sSetIx, gIx_lst, at_ints l h0 h1, ix, st, e]
def lateI (hs n1 n2 : List Int) : List Int := n2.foldl (stepI 1) (n1.foldl (stepI (-1)) hs)
theorem lateI_len (hs n1 n2 : List Int) : (lateI hs n1 n2).length = hs.length := by unfold lateI; rw [foldI_len, foldI_len]
def canB (hs n1 : List Int) : Bool := n1.all fun n => decide (0 < hs.getD n.toNat 0)
def Sht.can (S : Sht) (hs : List Int) (r : Int) : Bool := canB hs (S.T r).tk
def Sht.late (S : Sht) (hs : List Int) (r : Int) : List Int := lateI hs (S.T r).tk (S.T r).gv
theorem foldI_get (d : Int) : ∀ (ns l : List Int) (i : Nat), ns.Nodup → (∀ n ∈ ns, 0 ≤ n) → (ns.foldl (stepI d) l)[i]? = l[i]?.map fun x => x + (if (i : Int) ∈ ns then d else 0)
  | [], l, i, _, _ => by
    cases h : l[i]? <;> simp [h]
  | n :: ns, l, i, hn, h0 => by
    obtain ⟨n1, n2⟩ := List.nodup_cons.mp hn
    have ih := foldI_get d ns (stepI d l n) i n2 fun m hm => h0 m (List.mem_cons_of_mem _ hm)
    rw [List.foldl_cons, ih]
    have hn0 := h0 n List.mem_cons_self
    by_cases hi : i = n.toNat
    · have e : (i : Int) = n := by omega
      have e2 : (i : Int) ∉ ns := by rw [e]; exact n1
      have e3 : (i : Int) ∈ n :: ns := by rw [e]; exact List.mem_cons_self
      rw [if_neg e2, if_pos e3]
      unfold stepI
      rw [hi]
      by_cases hl : n.toNat < l.length
      · rw [List.getElem?_set_self hl, List.getElem?_eq_getElem hl, List.getD_eq_getElem?_getD, List.getElem?_eq_getElem hl]
        simp
      · rw [List.getElem?_eq_none (by rw [List.length_set]; omega), List.getElem?_eq_none (by omega)]
        rfl
    · have e : (i : Int) ≠ n := by omega
      have e3 : ((i : Int) ∈ n :: ns) = ((i : Int) ∈ ns) := by
        rw [List.mem_cons]
        simp [e]
      unfold stepI
      rw [List.getElem?_set_ne (Ne.symm hi)]
      simp only [e3]
theorem gInT_ints (neg : Bool) (d : Int) (ns : List Int) : gIn neg (.int d) (.tuple (ns.map PyData.int)) = some (.bool (if neg = true then !decide (d ∈ ns) else decide (d ∈ ns))) := by
  have e : flatD (.int d) = true := rfl
  simp only [gIn, e, flat_ints, and_self, if_true, inD_ints]
/-- the standing behind, place by place, as laws tell it -/
def lawLate (hs n1 n2 : List Int) : List Int := hs.zipIdx.map fun q => q.1 - b2 (decide ((q.2 : Int) ∈ n1)) + b2 (decide ((q.2 : Int) ∈ n2))
theorem late_eq {hs n1 n2 : List Int} (r1 : riseI n1 = true) (r2 : riseI n2 = true) (i1 : ∀ n ∈ n1, 0 ≤ n) (i2 : ∀ n ∈ n2, 0 ≤ n) : lawLate hs n1 n2 = lateI hs n1 n2 := by
  apply List.ext_getElem?
  intro i
  unfold lawLate lateI
  rw [foldI_get 1 n2 _ i (rise_nodup r2) i2, foldI_get (-1) n1 hs i (rise_nodup r1) i1, List.getElem?_map, List.getElem?_zipIdx]
  cases hs[i]? with
  | none => rfl
  | some x =>
    simp only [Option.map_some, Nat.zero_add, b2, decide_eq_true_eq, Option.some.injEq]
    split <;> split <;> omega
section
variable {S : Sht} {hs : List Int} {r : Int}
theorem Sht.late_len (S : Sht) (hs : List Int) (r : Int) : (S.late hs r).length = hs.length := lateI_len _ _ _
theorem late_ne (g : S.Ok) (hl : (hs.length : Int) = S.p) : (S.late hs r).isEmpty = false := by
  have e := S.late_len hs r
  have := g.p1
  cases h : S.late hs r with
  | nil => rw [h] at e; simp at e; omega
  | cons a r => rfl
theorem e_can_do (g : S.Ok) (hl : (hs.length : Int) = S.p) (h0 : 0 ≤ r) (h1 : r < S.ts.length) (π : Pt) : m_can_do [.d S.d, .d (tup hs), .d (.int r)] π = some (.bool (S.can hs r), π) := by
  have k := g.T h0 h1
  have kl := k.l1 g.p2
  have at_ := Sht.at_ (S := S) h0 h1
  unfold m_can_do g_can_do
  simp only [mOf, mOfZ, mOfR, asRt, entry, List.length_cons, List.length_nil, List.replicate, List.cons_append, List.nil_append, Nat.reduceAdd, Nat.reduceSub, fV, fVx, fC, fB, fBN, fU, fUN, fL, fIsi, fAndV, fOrV, fNotV, fTv, asB, asL, asT, fNotT, fAndT, fOrT, fIf, fIfN, fCh, fCl, fClN, aNil, aD, aN, aP, fNil, fCons, fTup, fLst, sNil, sSeq, sSet, sSetM, sRet, sRetN, sIf, sBrk, sCnt, sDrop, sFor, rSeq, sFrz, iL, iT, iS, iE, iZ, oNone, oSome, fSlA, fSlL, fPot, sPot, gPot, sPotN, List.getElem?_cons_zero, List.getElem?_cons_succ, List.set_cons_zero, List.set_cons_succ, Option.bind_some, Option.map_some, Option.bind_none, Option.map_none, List.all_cons, List.all_nil, Sl.dp, Bool.and_true, Bool.true_and, and_self, and_true, true_and, if_true, if_false, ite_true, ite_false, Bool.false_eq_true, reduceCtorEq, reduceIte, Bool.not_true, Bool.not_false, gEq_str, gEq_int, gAdd_int, le_line, Nat.reduceLeDiff, Nat.reduceEqDiff, ne_eq, not_false_eq_true, cast_2, cast_3, cast_4, cast_5, cast_1, cast_0, eq_self, decide_true, decide_false]
  rw [fLc_map (ds := (S.T r).tk.map PyData.int) (π1 := π) (fun x => match x with | .int n => .bool (decide (0 < hs.getD n.toNat 0)) | _ => .none)]
  · have e : ((S.T r).tk.map PyData.int).map (fun x => match x with | .int n => PyData.bool (decide (0 < hs.getD n.toNat 0)) | _ => .none) = (S.T r).tk.map fun n => PyData.bool (decide (0 < hs.getD n.toNat 0)) := by
      rw [List.map_map]; rfl
    rw [e]
    simp only [mOf, mOfZ, mOfR, asRt, entry, List.length_cons, List.length_nil, List.replicate, List.cons_append, List.nil_append, Nat.reduceAdd, Nat.reduceSub, fV, fVx, fC, fB, fBN, fU, fUN, fL, fIsi, fAndV, fOrV, fNotV, fTv, asB, asL, asT, fNotT, fAndT, fOrT, fIf, fIfN, fCh, fCl, fClN, aNil, aD, aN, aP, fNil, fCons, fTup, fLst, sNil, sSeq, sSet, sSetM, sRet, sRetN, sIf, sBrk, sCnt, sDrop, sFor, rSeq, sFrz, iL, iT, iS, iE, iZ, oNone, oSome, fSlA, fSlL, fPot, sPot, gPot, sPotN, List.getElem?_cons_zero, List.getElem?_cons_succ, List.set_cons_zero, List.set_cons_succ, Option.bind_some, Option.map_some, Option.bind_none, Option.map_none, List.all_cons, List.all_nil, Sl.dp, Bool.and_true, Bool.true_and, and_self, and_true, true_and, if_true, if_false, ite_true, ite_false, Bool.false_eq_true, reduceCtorEq, reduceIte, Bool.not_true, Bool.not_false, gEq_str, gEq_int, gAdd_int, le_line, Nat.reduceLeDiff, Nat.reduceEqDiff, ne_eq, not_false_eq_true, cast_2, cast_3, cast_4, cast_5, cast_1, cast_0, eq_self, decide_true, decide_false, gAll_map, Sht.can, canB]
  · simp only [mOf, mOfZ, mOfR, asRt, entry, List.length_cons, List.length_nil, List.replicate, List.cons_append, List.nil_append, Nat.reduceAdd, Nat.reduceSub, fV, fVx, fC, fB, fBN, fU, fUN, fL, fIsi, fAndV, fOrV, fNotV, fTv, asB, asL, asT, fNotT, fAndT, fOrT, fIf, fIfN, fCh, fCl, fClN, aNil, aD, aN, aP, fNil, fCons, fTup, fLst, sNil, sSeq, sSet, sSetM, sRet, sRetN, sIf, sBrk, sCnt, sDrop, sFor, rSeq, sFrz, iL, iT, iS, iE, iZ, oNone, oSome, fSlA, fSlL, fPot, sPot, gPot, sPotN, List.getElem?_cons_zero, List.getElem?_cons_succ, List.set_cons_zero, List.set_cons_succ, Option.bind_some, Option.map_some, Option.bind_none, Option.map_none, List.all_cons, List.all_nil, Sl.dp, Bool.and_true, Bool.true_and, and_self, and_true, true_and, if_true, if_false, ite_true, ite_false, Bool.false_eq_true, reduceCtorEq, reduceIte, Bool.not_true, Bool.not_false, gEq_str, gEq_int, gAdd_int, le_line, Nat.reduceLeDiff, Nat.reduceEqDiff, ne_eq, not_false_eq_true, cast_2, cast_3, cast_4, cast_5, cast_1, cast_0, eq_self, decide_true, decide_false, iA, gIx_tup, atI_2, at_, atI_1]
  · exact len_line (by rw [List.length_map]; omega)
  · intro x hx
    obtain ⟨n, hn, rfl⟩ := List.mem_map.mp hx
    obtain ⟨h0, h1⟩ := k.i1 n hn
    exact ⟨_, rfl, rfl, by simp only [mOf, mOfZ, mOfR, asRt, entry, List.length_cons, List.length_nil, List.replicate, List.cons_append, List.nil_append, Nat.reduceAdd, Nat.reduceSub, fV, fVx, fC, fB, fBN, fU, fUN, fL, fIsi, fAndV, fOrV, fNotV, fTv, asB, asL, asT, fNotT, fAndT, fOrT, fIf, fIfN, fCh, fCl, fClN, aNil, aD, aN, aP, fNil, fCons, fTup, fLst, sNil, sSeq, sSet, sSetM, sRet, sRetN, sIf, sBrk, sCnt, sDrop, sFor, rSeq, sFrz, iL, iT, iS, iE, iZ, oNone, oSome, fSlA, fSlL, fPot, sPot, gPot, sPotN, List.getElem?_cons_zero, List.getElem?_cons_succ, List.set_cons_zero, List.set_cons_succ, Option.bind_some, Option.map_some, Option.bind_none, Option.map_none, List.all_cons, List.all_nil, Sl.dp, Bool.and_true, Bool.true_and, and_self, and_true, true_and, if_true, if_false, ite_true, ite_false, Bool.false_eq_true, reduceCtorEq, reduceIte, Bool.not_true, Bool.not_false, gEq_str, gEq_int, gAdd_int, le_line, Nat.reduceLeDiff, Nat.reduceEqDiff, ne_eq, not_false_eq_true, cast_2, cast_3, cast_4, cast_5, cast_1, cast_0, eq_self, decide_true, decide_false, wipeE, gIx_tup, at_ints hs h0 (by omega), gGt, gCmp]⟩
def behD (l : List Int) : PyData := if decide (maxI l ≤ 9) = true then tup l else .none
theorem e_behind_task (g : S.Ok) (hl : (hs.length : Int) = S.p) (h0 : 0 ≤ r) (h1 : r < S.ts.length) (π : Pt) : m_behind_task [.d S.d, .d (tup hs), .d (.int r)] π = some (behD (S.late hs r), π) := by
  have k := g.T h0 h1
  have at_ := Sht.at_ (S := S) h0 h1
  obtain ⟨s4, e1⟩ := loop_dec (.d S.d) (.d (tup hs)) (.d (.int r)) π (S.T r).tk hs .e fun n hn => by have := k.i1 n hn; omega
  obtain ⟨s5, e2⟩ := loop_inc (.d S.d) (.d (tup hs)) (.d (.int r)) π (S.T r).gv ((S.T r).tk.foldl (stepI (-1)) hs) s4 fun n hn => by rw [foldI_len]; have := k.i2 n hn; omega
  have hne := late_ne (r := r) g hl
  unfold Sht.late lateI at hne ⊢
  unfold m_behind_task g_behind_task behD
  cases h9 : decide (maxI ((S.T r).gv.foldl (stepI 1) ((S.T r).tk.foldl (stepI (-1)) hs)) ≤ 9) <;> simp only [mOf, mOfZ, mOfR, asRt, entry, List.length_cons, List.length_nil, List.replicate, List.cons_append, List.nil_append, Nat.reduceAdd, Nat.reduceSub, fV, fVx, fC, fB, fBN, fU, fUN, fL, fIsi, fAndV, fOrV, fNotV, fTv, asB, asL, asT, fNotT, fAndT, fOrT, fIf, fIfN, fCh, fCl, fClN, aNil, aD, aN, aP, fNil, fCons, fTup, fLst, sNil, sSeq, sSet, sSetM, sRet, sRetN, sIf, sBrk, sCnt, sDrop, sFor, rSeq, sFrz, iL, iT, iS, iE, iZ, oNone, oSome, fSlA, fSlL, fPot, sPot, gPot, sPotN, List.getElem?_cons_zero, List.getElem?_cons_succ, List.set_cons_zero, List.set_cons_succ, Option.bind_some, Option.map_some, Option.bind_none, Option.map_none, List.all_cons, List.all_nil, Sl.dp, Bool.and_true, Bool.true_and, and_self, and_true, true_and, if_true, if_false, ite_true, ite_false, Bool.false_eq_true, reduceCtorEq, reduceIte, Bool.not_true, Bool.not_false, gEq_str, gEq_int, gAdd_int, le_line, Nat.reduceLeDiff, Nat.reduceEqDiff, ne_eq, not_false_eq_true, cast_2, cast_3, cast_4, cast_5, cast_1, cast_0, eq_self, decide_true, decide_false, h9, gList, iA, gIx_tup, atI_2, at_, atI_1, e1, e2, gMaxL, ints_map, hne, gLe, gCmp, gTuple]
theorem late_ge0 (g : S.Ok) (h0 : 0 ≤ r) (h1 : r < S.ts.length) (h : ∀ x ∈ hs, 0 ≤ x) (hc : S.can hs r = true) : ∀ x ∈ S.late hs r, 0 ≤ x := fun x hx => by
  have k := g.T h0 h1
  obtain ⟨i, hi⟩ := List.mem_iff_getElem?.mp hx
  unfold Sht.late lateI at hi
  rw [foldI_get 1 _ _ i (rise_nodup k.r2) (fun n hn => (k.i2 n hn).1), foldI_get (-1) _ hs i (rise_nodup k.r1) (fun n hn => (k.i1 n hn).1)] at hi
  cases hy : hs[i]? with
  | none => rw [hy] at hi; cases hi
  | some y =>
    rw [hy] at hi
    simp only [Option.map_some, Option.some.injEq] at hi
    have y0 := h y (List.mem_of_getElem? hy)
    have pos : (i : Int) ∈ (S.T r).tk → 0 < y := fun hm => by
      have q := (List.all_eq_true.mp hc) _ hm
      have e : hs.getD (i : Int).toNat 0 = y := by
        rw [Int.toNat_natCast, List.getD_eq_getElem?_getD, hy]
        rfl
      rw [e] at q
      exact of_decide_eq_true q
    by_cases h1 : (i : Int) ∈ (S.T r).tk
    · have := pos h1
      rw [if_pos h1] at hi
      split at hi <;> omega
    · rw [if_neg h1] at hi
      split at hi <;> omega
theorem le_maxI {ns : List Int} {x : Int} (h : x ∈ ns) : x ≤ maxI ns := by
  have h0 : ns ≠ [] := fun e => by rw [e] at h; cases h
  exact (maxI_spec ns h0).2 x h
theorem late_stand (g : S.Ok) (st : Stand S.p hs) (h0 : 0 ≤ r) (h1 : r < S.ts.length) (hc : S.can hs r = true) (h9 : maxI (S.late hs r) ≤ 9) : Stand S.p (S.late hs r) :=
  ⟨by rw [S.late_len]; exact st.len, fun x hx => ⟨late_ge0 g h0 h1 (fun x hx => (st.b x hx).1) hc x hx, Int.le_trans (le_maxI hx) h9⟩⟩
end
/-- a run's way: the flaw, the standing behind -/
def Sht.gone (S : Sht) : List Int → Int → List Int → Option (Int × Str) × Option (List Int)
  | hs, _, [] => (none, some hs)
  | hs, i, r :: rs => if S.can hs r = true then
      (if decide (maxI (S.late hs r) ≤ 9) = true then S.gone (S.late hs r) (i + 1) rs else (some (i, "spills"), none))
    else (some (i, "not"), none)
def flawD : Option (Int × Str) → PyData
  | none => .none
  | some (i, w) => .tuple [.int i, .str w]
def hereD : Option (List Int) → PyData
  | none => .none
  | some hs => tup hs
theorem gone_shape (S : Sht) : ∀ (rs hs : List Int) (i : Int), (∃ h, S.gone hs i rs = (none, some h)) ∨ ∃ f, S.gone hs i rs = (some f, none)
  | [], hs, i => .inl ⟨hs, rfl⟩
  | r :: rs, hs, i => by
    unfold Sht.gone
    split
    · split
      · exact gone_shape S rs _ _
      · exact .inr ⟨_, rfl⟩
    · exact .inr ⟨_, rfl⟩
theorem gone_stand {S : Sht} (g : S.Ok) : ∀ (rs hs : List Int) (i : Int), Stand S.p hs → (∀ r ∈ rs, 0 ≤ r ∧ r < S.ts.length) → ∀ h, (S.gone hs i rs).2 = some h → Stand S.p h
  | [], hs, i, st, _, h, e => by cases e; exact st
  | r :: rs, hs, i, st, hr, h, e => by
    unfold Sht.gone at e
    split at e
    · rename_i hc
      split at e
      · rename_i h9
        obtain ⟨r0, r1⟩ := hr r List.mem_cons_self
        exact gone_stand g rs _ _ (late_stand g st r0 r1 hc (of_decide_eq_true h9)) (fun q hq => hr q (List.mem_cons_of_mem _ hq)) h e
      · cases e
    · cases e
theorem gone_fst (S : Sht) : ∀ (rs hs : List Int) (i j : Int), (S.gone hs i rs).2 = (S.gone hs j rs).2
  | [], _, _, _ => rfl
  | r :: rs, hs, i, j => by
    unfold Sht.gone
    split
    · split
      · exact gone_fst S rs _ _ _
      · rfl
    · rfl
def numbFrom (k : Nat) (ds : List PyData) : List PyData := (ds.zipIdx k).map fun q => .tuple [.int (q.2 : Int), q.1]
theorem numb_0 (ds : List PyData) : numb ds = numbFrom 0 ds := rfl
theorem numbFrom_cons (k : Nat) (d : PyData) (ds : List PyData) : numbFrom k (d :: ds) = .tuple [.int (k : Int), d] :: numbFrom (k + 1) ds := rfl
/-- a run, as a list or a tuple -/
def runD (l : Bool) (rs : List Int) : PyData := if l = true then .list (rs.map PyData.int) else .tuple (rs.map PyData.int)
theorem gIsN_none (neg : Bool) (x : PyData) : gIsN neg x .none = some (.bool (if neg = true then !isNone x else isNone x)) := rfl
theorem caseA_run (l : Bool) (rs : List Int) (Q : List PyData → Prop) : caseA Q (runD l rs) = Q (rs.map PyData.int) := by
  unfold runD
  cases l <;> rfl
theorem iA_run (l : Bool) (rs : List Int) (f : MX) (ρ : Ev) (π π' : Pt) (h : f ρ π = some (runD l rs, π')) : iA f ρ π = some (rs.map PyData.int, π') := by
  unfold iA runD at *
  rw [h]
  cases l <;> rfl
theorem iE_run (l : Bool) (rs : List Int) (f : MX) (ρ : Ev) (π π' : Pt) (h : f ρ π = some (runD l rs, π')) : iE f ρ π = some (numb (rs.map PyData.int), π') := by
  unfold iE runD at *
  rw [h]
  cases l <;> rfl
theorem runD_len (l : Bool) (rs : List Int) : gLen (runD l rs) = some (.int rs.length) := by
  unfold runD
  cases l
  · show gLen (.tuple _) = _
    rw [gLen_tup, List.length_map]
  · show gLen (.list _) = _
    rw [gLen_lst, List.length_map]
section
variable {S : Sht}
abbrev gLed : MS := (sSeq (sSet 3 (fIf (fTv (fCl 3 m_can_do (aD (fV 0) (aD (fV 3) (aD (fV 4) aNil))))) (fCl 3 m_behind_task (aD (fV 0) (aD (fV 3) (aD (fV 4) aNil)))) (fC .none))) (sIf (fTv (fB (gIsN false) (fVx 3) (fC .none))) (sRet (fC .none)) sNil))
theorem led_loop (g : S.Ok) (s1 s2 : Sl) (π : Pt) : ∀ (rs hs : List Int) (i : Int) (s4 : Sl), (hs.length : Int) = S.p → (∀ r ∈ rs, 0 ≤ r ∧ r < S.ts.length) →
    (match S.gone hs i rs with
    | (_, some hs') => ∃ s4', DL.forM (tName 4) gLed (rs.map PyData.int) [.d S.d, s1, s2, .d (tup hs), s4] π = some (.nx [.d S.d, s1, s2, .d (tup hs'), s4'], π)
    | (_, none) => DL.forM (tName 4) gLed (rs.map PyData.int) [.d S.d, s1, s2, .d (tup hs), s4] π = some (.rt .none, π))
  | [], hs, i, s4, _, _ => ⟨s4, rfl⟩
  | r :: rs, hs, i, s4, hl, hr => by
    obtain ⟨r0, r1⟩ := hr r List.mem_cons_self
    have cd := fun π => e_can_do g hl r0 r1 π
    have bt := fun π => e_behind_task g hl r0 r1 π
    rw [List.map_cons]
    unfold DL.forM Sht.gone
    cases hc : S.can hs r with
    | false => simp only [mOf, mOfZ, mOfR, asRt, entry, List.length_cons, List.length_nil, List.replicate, List.cons_append, List.nil_append, Nat.reduceAdd, Nat.reduceSub, fV, fVx, fC, fB, fBN, fU, fUN, fL, fIsi, fAndV, fOrV, fNotV, fTv, asB, asL, asT, fNotT, fAndT, fOrT, fIf, fIfN, fCh, fCl, fClN, aNil, aD, aN, aP, fNil, fCons, fTup, fLst, sNil, sSeq, sSet, sSetM, sRet, sRetN, sIf, sBrk, sCnt, sDrop, sFor, rSeq, sFrz, iL, iT, iS, iE, iZ, oNone, oSome, fSlA, fSlL, fPot, sPot, gPot, sPotN, List.getElem?_cons_zero, List.getElem?_cons_succ, List.set_cons_zero, List.set_cons_succ, Option.bind_some, Option.map_some, Option.bind_none, Option.map_none, List.all_cons, List.all_nil, Sl.dp, Bool.and_true, Bool.true_and, and_self, and_true, true_and, if_true, if_false, ite_true, ite_false, Bool.false_eq_true, reduceCtorEq, reduceIte, Bool.not_true, Bool.not_false, gEq_str, gEq_int, gAdd_int, le_line, Nat.reduceLeDiff, Nat.reduceEqDiff, ne_eq, not_false_eq_true, cast_2, cast_3, cast_4, cast_5, cast_1, cast_0, eq_self, decide_true, decide_false, tName, cd, hc, gIsN_none, isNone]
    | true =>
      cases hm : decide (maxI (S.late hs r) ≤ 9) with
      | false => simp only [mOf, mOfZ, mOfR, asRt, entry, List.length_cons, List.length_nil, List.replicate, List.cons_append, List.nil_append, Nat.reduceAdd, Nat.reduceSub, fV, fVx, fC, fB, fBN, fU, fUN, fL, fIsi, fAndV, fOrV, fNotV, fTv, asB, asL, asT, fNotT, fAndT, fOrT, fIf, fIfN, fCh, fCl, fClN, aNil, aD, aN, aP, fNil, fCons, fTup, fLst, sNil, sSeq, sSet, sSetM, sRet, sRetN, sIf, sBrk, sCnt, sDrop, sFor, rSeq, sFrz, iL, iT, iS, iE, iZ, oNone, oSome, fSlA, fSlL, fPot, sPot, gPot, sPotN, List.getElem?_cons_zero, List.getElem?_cons_succ, List.set_cons_zero, List.set_cons_succ, Option.bind_some, Option.map_some, Option.bind_none, Option.map_none, List.all_cons, List.all_nil, Sl.dp, Bool.and_true, Bool.true_and, and_self, and_true, true_and, if_true, if_false, ite_true, ite_false, Bool.false_eq_true, reduceCtorEq, reduceIte, Bool.not_true, Bool.not_false, gEq_str, gEq_int, gAdd_int, le_line, Nat.reduceLeDiff, Nat.reduceEqDiff, ne_eq, not_false_eq_true, cast_2, cast_3, cast_4, cast_5, cast_1, cast_0, eq_self, decide_true, decide_false, tName, cd, hc, bt, hm, behD, gIsN_none, isNone]
      | true =>
        have ih := led_loop g s1 s2 π rs (S.late hs r) (i + 1) (.d (.int r)) (by rw [S.late_len]; exact hl) fun q hq => hr q (List.mem_cons_of_mem _ hq)
        have nn : isNone (tup (S.late hs r)) = false := rfl
        simp only [mOf, mOfZ, mOfR, asRt, entry, List.length_cons, List.length_nil, List.replicate, List.cons_append, List.nil_append, Nat.reduceAdd, Nat.reduceSub, fV, fVx, fC, fB, fBN, fU, fUN, fL, fIsi, fAndV, fOrV, fNotV, fTv, asB, asL, asT, fNotT, fAndT, fOrT, fIf, fIfN, fCh, fCl, fClN, aNil, aD, aN, aP, fNil, fCons, fTup, fLst, sNil, sSeq, sSet, sSetM, sRet, sRetN, sIf, sBrk, sCnt, sDrop, sFor, rSeq, sFrz, iL, iT, iS, iE, iZ, oNone, oSome, fSlA, fSlL, fPot, sPot, gPot, sPotN, List.getElem?_cons_zero, List.getElem?_cons_succ, List.set_cons_zero, List.set_cons_succ, Option.bind_some, Option.map_some, Option.bind_none, Option.map_none, List.all_cons, List.all_nil, Sl.dp, Bool.and_true, Bool.true_and, and_self, and_true, true_and, if_true, if_false, ite_true, ite_false, Bool.false_eq_true, reduceCtorEq, reduceIte, Bool.not_true, Bool.not_false, gEq_str, gEq_int, gAdd_int, le_line, Nat.reduceLeDiff, Nat.reduceEqDiff, ne_eq, not_false_eq_true, cast_2, cast_3, cast_4, cast_5, cast_1, cast_0, eq_self, decide_true, decide_false, tName, cd, hc, bt, hm, behD, gIsN_none, nn]
        exact ih
theorem e_led (g : S.Ok) (l : Bool) (rs hs : List Int) (hl : (hs.length : Int) = S.p) (hr : ∀ r ∈ rs, 0 ≤ r ∧ r < S.ts.length) (π : Pt) :
    m_led [.d S.d, .d (tup hs), .d (runD l rs)] π = some (hereD (S.gone hs 0 rs).2, π) := by
  have key := led_loop g (.d (tup hs)) (.d (runD l rs)) π rs hs 0 .e hl hr
  have ia := iA_run l rs (fV 2) [.d S.d, .d (tup hs), .d (runD l rs), .d (tup hs), .e] π π rfl
  unfold m_led g_led
  refine wp_eq ?_
  simp (config := { failIfUnchanged := false }) only [mOf, mOfZ, mOfR, asB_b, asL_l, asT_t, asRt_rt, asRt_nx, wp_asRt, wp_asB, wp_asL, wp_asT, wp_bind, wp_map, wp_some, wp_fLc, wp_iR1, wp_iA, wp_iE, wp_iS, wp_iR2, caseA_l, caseA_t, caseL_l, caseT_t, caseB_b, caseI_i, caseS_s, entry, List.length_cons, List.length_nil, List.replicate, List.cons_append, List.nil_append, Nat.reduceAdd, Nat.reduceSub, fV, fVx, fC, fB, fBN, fU, fUN, fL, fIsi_ap, fAndV, fOrV, fNotV, fTv, fNotT, fAndT, fOrT, fIf, fIfN, fCh, fCl, fClN, aNil, aD, aN, aP, fNil, fCons, fTup, fLst, sNil, sSeq, sSet, sSetM, sRet, sRetN, sIf, sBrk, sCnt, sDrop, sFor, rSeq, sFrz, iL, iT, iZ, oNone, oSome, fSlA, fSlL, fPot, sPot, gPot, sPotN, tName, tTupG, tsCons, tsNil, sPar, sPar3, notP, sUnp, wipeE, sApp, sExt, sSetIx, List.getElem?_cons_zero, List.getElem?_cons_succ, List.set_cons_zero, List.set_cons_succ, Option.bind_some, Option.map_some, Option.bind_none, Option.map_none, List.all_cons, List.all_nil, Sl.dp, Bool.and_true, Bool.true_and, and_self, and_true, true_and, if_true, if_false, ite_true, ite_false, Bool.false_eq_true, reduceCtorEq, reduceIte, Bool.not_true, Bool.not_false, gEq_str, gEq_int, gAdd_int, le_line, Nat.reduceLeDiff, Nat.reduceEqDiff, ne_eq, not_false_eq_true, cast_2, cast_3, cast_4, cast_5, cast_1, cast_0, eq_self, decide_true, decide_false, caseA_run]
  rcases gone_shape S rs hs 0 with ⟨h, e⟩ | ⟨f, e⟩
  · rw [e] at key ⊢
    obtain ⟨s4, e2⟩ := key
    rw [e2]
    simp (config := { failIfUnchanged := false }) only [mOf, mOfZ, mOfR, asB_b, asL_l, asT_t, asRt_rt, asRt_nx, wp_asRt, wp_asB, wp_asL, wp_asT, wp_bind, wp_map, wp_some, wp_fLc, wp_iR1, wp_iA, wp_iE, wp_iS, wp_iR2, caseA_l, caseA_t, caseL_l, caseT_t, caseB_b, caseI_i, caseS_s, entry, List.length_cons, List.length_nil, List.replicate, List.cons_append, List.nil_append, Nat.reduceAdd, Nat.reduceSub, fV, fVx, fC, fB, fBN, fU, fUN, fL, fIsi_ap, fAndV, fOrV, fNotV, fTv, fNotT, fAndT, fOrT, fIf, fIfN, fCh, fCl, fClN, aNil, aD, aN, aP, fNil, fCons, fTup, fLst, sNil, sSeq, sSet, sSetM, sRet, sRetN, sIf, sBrk, sCnt, sDrop, sFor, rSeq, sFrz, iL, iT, iZ, oNone, oSome, fSlA, fSlL, fPot, sPot, gPot, sPotN, tName, tTupG, tsCons, tsNil, sPar, sPar3, notP, sUnp, wipeE, sApp, sExt, sSetIx, List.getElem?_cons_zero, List.getElem?_cons_succ, List.set_cons_zero, List.set_cons_succ, Option.bind_some, Option.map_some, Option.bind_none, Option.map_none, List.all_cons, List.all_nil, Sl.dp, Bool.and_true, Bool.true_and, and_self, and_true, true_and, if_true, if_false, ite_true, ite_false, Bool.false_eq_true, reduceCtorEq, reduceIte, Bool.not_true, Bool.not_false, gEq_str, gEq_int, gAdd_int, le_line, Nat.reduceLeDiff, Nat.reduceEqDiff, ne_eq, not_false_eq_true, cast_2, cast_3, cast_4, cast_5, cast_1, cast_0, eq_self, decide_true, decide_false, hereD]
  · rw [e] at key ⊢
    rw [key]
    simp (config := { failIfUnchanged := false }) only [mOf, mOfZ, mOfR, asB_b, asL_l, asT_t, asRt_rt, asRt_nx, wp_asRt, wp_asB, wp_asL, wp_asT, wp_bind, wp_map, wp_some, wp_fLc, wp_iR1, wp_iA, wp_iE, wp_iS, wp_iR2, caseA_l, caseA_t, caseL_l, caseT_t, caseB_b, caseI_i, caseS_s, entry, List.length_cons, List.length_nil, List.replicate, List.cons_append, List.nil_append, Nat.reduceAdd, Nat.reduceSub, fV, fVx, fC, fB, fBN, fU, fUN, fL, fIsi_ap, fAndV, fOrV, fNotV, fTv, fNotT, fAndT, fOrT, fIf, fIfN, fCh, fCl, fClN, aNil, aD, aN, aP, fNil, fCons, fTup, fLst, sNil, sSeq, sSet, sSetM, sRet, sRetN, sIf, sBrk, sCnt, sDrop, sFor, rSeq, sFrz, iL, iT, iZ, oNone, oSome, fSlA, fSlL, fPot, sPot, gPot, sPotN, tName, tTupG, tsCons, tsNil, sPar, sPar3, notP, sUnp, wipeE, sApp, sExt, sSetIx, List.getElem?_cons_zero, List.getElem?_cons_succ, List.set_cons_zero, List.set_cons_succ, Option.bind_some, Option.map_some, Option.bind_none, Option.map_none, List.all_cons, List.all_nil, Sl.dp, Bool.and_true, Bool.true_and, and_self, and_true, true_and, if_true, if_false, ite_true, ite_false, Bool.false_eq_true, reduceCtorEq, reduceIte, Bool.not_true, Bool.not_false, gEq_str, gEq_int, gAdd_int, le_line, Nat.reduceLeDiff, Nat.reduceEqDiff, ne_eq, not_false_eq_true, cast_2, cast_3, cast_4, cast_5, cast_1, cast_0, eq_self, decide_true, decide_false, hereD]
abbrev gFst : MS := (sSeq (sIf (fNotT (fTv (fCl 3 m_can_do (aD (fV 0) (aD (fV 3) (aD (fV 5) aNil)))))) (sRet (fTup (fCons (fV 4) (fCons (fC (.str "not")) fNil)))) sNil) (sSeq (sSet 3 (fCl 3 m_behind_task (aD (fV 0) (aD (fV 3) (aD (fV 5) aNil))))) (sIf (fTv (fB (gIsN false) (fVx 3) (fC .none))) (sRet (fTup (fCons (fV 4) (fCons (fC (.str "spills")) fNil)))) sNil)))
theorem fst_loop (g : S.Ok) (s1 s2 : Sl) (π : Pt) : ∀ (rs : List Int) (k : Nat) (hs : List Int) (s4 s5 : Sl), (hs.length : Int) = S.p → (∀ r ∈ rs, 0 ≤ r ∧ r < S.ts.length) →
    (match S.gone hs k rs with
    | (none, _) => ∃ s3' s4' s5', DL.forM (tTupG (tsCons (tName 4) (tsCons (tName 5) tsNil)) 2) gFst (numbFrom k (rs.map PyData.int)) [.d S.d, s1, s2, .d (tup hs), s4, s5] π = some (.nx [.d S.d, s1, s2, s3', s4', s5'], π)
    | (some f, _) => DL.forM (tTupG (tsCons (tName 4) (tsCons (tName 5) tsNil)) 2) gFst (numbFrom k (rs.map PyData.int)) [.d S.d, s1, s2, .d (tup hs), s4, s5] π = some (.rt (flawD (some f)), π))
  | [], k, hs, s4, s5, _, _ => ⟨_, s4, s5, rfl⟩
  | r :: rs, k, hs, s4, s5, hl, hr => by
    obtain ⟨r0, r1⟩ := hr r List.mem_cons_self
    have cd := fun π => e_can_do g hl r0 r1 π
    have bt := fun π => e_behind_task g hl r0 r1 π
    rw [List.map_cons, numbFrom_cons]
    unfold DL.forM Sht.gone
    cases hc : S.can hs r with
    | false => simp only [mOf, mOfZ, mOfR, asRt, entry, List.length_cons, List.length_nil, List.replicate, List.cons_append, List.nil_append, Nat.reduceAdd, Nat.reduceSub, fV, fVx, fC, fB, fBN, fU, fUN, fL, fIsi, fAndV, fOrV, fNotV, fTv, asB, asL, asT, fNotT, fAndT, fOrT, fIf, fIfN, fCh, fCl, fClN, aNil, aD, aN, aP, fNil, fCons, fTup, fLst, sNil, sSeq, sSet, sSetM, sRet, sRetN, sIf, sBrk, sCnt, sDrop, sFor, rSeq, sFrz, iL, iT, iS, iE, iZ, oNone, oSome, fSlA, fSlL, fPot, sPot, gPot, sPotN, List.getElem?_cons_zero, List.getElem?_cons_succ, List.set_cons_zero, List.set_cons_succ, Option.bind_some, Option.map_some, Option.bind_none, Option.map_none, List.all_cons, List.all_nil, Sl.dp, Bool.and_true, Bool.true_and, and_self, and_true, true_and, if_true, if_false, ite_true, ite_false, Bool.false_eq_true, reduceCtorEq, reduceIte, Bool.not_true, Bool.not_false, gEq_str, gEq_int, gAdd_int, le_line, Nat.reduceLeDiff, Nat.reduceEqDiff, ne_eq, not_false_eq_true, cast_2, cast_3, cast_4, cast_5, cast_1, cast_0, eq_self, decide_true, decide_false, tTupG, tsCons, tName, tsNil, cd, hc, flawD]
    | true =>
      cases hm : decide (maxI (S.late hs r) ≤ 9) with
      | false => simp only [mOf, mOfZ, mOfR, asRt, entry, List.length_cons, List.length_nil, List.replicate, List.cons_append, List.nil_append, Nat.reduceAdd, Nat.reduceSub, fV, fVx, fC, fB, fBN, fU, fUN, fL, fIsi, fAndV, fOrV, fNotV, fTv, asB, asL, asT, fNotT, fAndT, fOrT, fIf, fIfN, fCh, fCl, fClN, aNil, aD, aN, aP, fNil, fCons, fTup, fLst, sNil, sSeq, sSet, sSetM, sRet, sRetN, sIf, sBrk, sCnt, sDrop, sFor, rSeq, sFrz, iL, iT, iS, iE, iZ, oNone, oSome, fSlA, fSlL, fPot, sPot, gPot, sPotN, List.getElem?_cons_zero, List.getElem?_cons_succ, List.set_cons_zero, List.set_cons_succ, Option.bind_some, Option.map_some, Option.bind_none, Option.map_none, List.all_cons, List.all_nil, Sl.dp, Bool.and_true, Bool.true_and, and_self, and_true, true_and, if_true, if_false, ite_true, ite_false, Bool.false_eq_true, reduceCtorEq, reduceIte, Bool.not_true, Bool.not_false, gEq_str, gEq_int, gAdd_int, le_line, Nat.reduceLeDiff, Nat.reduceEqDiff, ne_eq, not_false_eq_true, cast_2, cast_3, cast_4, cast_5, cast_1, cast_0, eq_self, decide_true, decide_false, tTupG, tsCons, tName, tsNil, cd, hc, bt, hm, behD, gIsN_none, isNone, flawD]
      | true =>
        have ih := fst_loop g s1 s2 π rs (k + 1) (S.late hs r) (.d (.int (k : Int))) (.d (.int r)) (by rw [S.late_len]; exact hl) fun q hq => hr q (List.mem_cons_of_mem _ hq)
        have ek : ((k + 1 : Nat) : Int) = (k : Int) + 1 := by omega
        rw [ek] at ih
        have nn : isNone (tup (S.late hs r)) = false := rfl
        simp only [mOf, mOfZ, mOfR, asRt, entry, List.length_cons, List.length_nil, List.replicate, List.cons_append, List.nil_append, Nat.reduceAdd, Nat.reduceSub, fV, fVx, fC, fB, fBN, fU, fUN, fL, fIsi, fAndV, fOrV, fNotV, fTv, asB, asL, asT, fNotT, fAndT, fOrT, fIf, fIfN, fCh, fCl, fClN, aNil, aD, aN, aP, fNil, fCons, fTup, fLst, sNil, sSeq, sSet, sSetM, sRet, sRetN, sIf, sBrk, sCnt, sDrop, sFor, rSeq, sFrz, iL, iT, iS, iE, iZ, oNone, oSome, fSlA, fSlL, fPot, sPot, gPot, sPotN, List.getElem?_cons_zero, List.getElem?_cons_succ, List.set_cons_zero, List.set_cons_succ, Option.bind_some, Option.map_some, Option.bind_none, Option.map_none, List.all_cons, List.all_nil, Sl.dp, Bool.and_true, Bool.true_and, and_self, and_true, true_and, if_true, if_false, ite_true, ite_false, Bool.false_eq_true, reduceCtorEq, reduceIte, Bool.not_true, Bool.not_false, gEq_str, gEq_int, gAdd_int, le_line, Nat.reduceLeDiff, Nat.reduceEqDiff, ne_eq, not_false_eq_true, cast_2, cast_3, cast_4, cast_5, cast_1, cast_0, eq_self, decide_true, decide_false, tTupG, tsCons, tName, tsNil, cd, hc, bt, hm, behD, gIsN_none, nn]
        exact ih
theorem e_first_wrong (g : S.Ok) (l : Bool) (rs hs : List Int) (hl : (hs.length : Int) = S.p) (hr : ∀ r ∈ rs, 0 ≤ r ∧ r < S.ts.length) (π : Pt) :
    m_first_wrong [.d S.d, .d (tup hs), .d (runD l rs)] π = some (flawD (S.gone hs 0 rs).1, π) := by
  have key := fst_loop g (.d (tup hs)) (.d (runD l rs)) π rs 0 hs .e .e hl hr
  have ek : ((0 : Nat) : Int) = 0 := rfl
  rw [ek, ← numb_0] at key
  unfold m_first_wrong g_first_wrong
  refine wp_eq ?_
  simp (config := { failIfUnchanged := false }) only [mOf, mOfZ, mOfR, asB_b, asL_l, asT_t, asRt_rt, asRt_nx, wp_asRt, wp_asB, wp_asL, wp_asT, wp_bind, wp_map, wp_some, wp_fLc, wp_iR1, wp_iA, wp_iE, wp_iS, wp_iR2, caseA_l, caseA_t, caseL_l, caseT_t, caseB_b, caseI_i, caseS_s, entry, List.length_cons, List.length_nil, List.replicate, List.cons_append, List.nil_append, Nat.reduceAdd, Nat.reduceSub, fV, fVx, fC, fB, fBN, fU, fUN, fL, fIsi_ap, fAndV, fOrV, fNotV, fTv, fNotT, fAndT, fOrT, fIf, fIfN, fCh, fCl, fClN, aNil, aD, aN, aP, fNil, fCons, fTup, fLst, sNil, sSeq, sSet, sSetM, sRet, sRetN, sIf, sBrk, sCnt, sDrop, sFor, rSeq, sFrz, iL, iT, iZ, oNone, oSome, fSlA, fSlL, fPot, sPot, gPot, sPotN, tName, tTupG, tsCons, tsNil, sPar, sPar3, notP, sUnp, wipeE, sApp, sExt, sSetIx, List.getElem?_cons_zero, List.getElem?_cons_succ, List.set_cons_zero, List.set_cons_succ, Option.bind_some, Option.map_some, Option.bind_none, Option.map_none, List.all_cons, List.all_nil, Sl.dp, Bool.and_true, Bool.true_and, and_self, and_true, true_and, if_true, if_false, ite_true, ite_false, Bool.false_eq_true, reduceCtorEq, reduceIte, Bool.not_true, Bool.not_false, gEq_str, gEq_int, gAdd_int, le_line, Nat.reduceLeDiff, Nat.reduceEqDiff, ne_eq, not_false_eq_true, cast_2, cast_3, cast_4, cast_5, cast_1, cast_0, eq_self, decide_true, decide_false, caseA_run]
  rcases gone_shape S rs hs 0 with ⟨h, e⟩ | ⟨f, e⟩
  · rw [e] at key ⊢
    obtain ⟨s3, s4, s5, e2⟩ := key
    rw [e2]
    simp (config := { failIfUnchanged := false }) only [mOf, mOfZ, mOfR, asB_b, asL_l, asT_t, asRt_rt, asRt_nx, wp_asRt, wp_asB, wp_asL, wp_asT, wp_bind, wp_map, wp_some, wp_fLc, wp_iR1, wp_iA, wp_iE, wp_iS, wp_iR2, caseA_l, caseA_t, caseL_l, caseT_t, caseB_b, caseI_i, caseS_s, entry, List.length_cons, List.length_nil, List.replicate, List.cons_append, List.nil_append, Nat.reduceAdd, Nat.reduceSub, fV, fVx, fC, fB, fBN, fU, fUN, fL, fIsi_ap, fAndV, fOrV, fNotV, fTv, fNotT, fAndT, fOrT, fIf, fIfN, fCh, fCl, fClN, aNil, aD, aN, aP, fNil, fCons, fTup, fLst, sNil, sSeq, sSet, sSetM, sRet, sRetN, sIf, sBrk, sCnt, sDrop, sFor, rSeq, sFrz, iL, iT, iZ, oNone, oSome, fSlA, fSlL, fPot, sPot, gPot, sPotN, tName, tTupG, tsCons, tsNil, sPar, sPar3, notP, sUnp, wipeE, sApp, sExt, sSetIx, List.getElem?_cons_zero, List.getElem?_cons_succ, List.set_cons_zero, List.set_cons_succ, Option.bind_some, Option.map_some, Option.bind_none, Option.map_none, List.all_cons, List.all_nil, Sl.dp, Bool.and_true, Bool.true_and, and_self, and_true, true_and, if_true, if_false, ite_true, ite_false, Bool.false_eq_true, reduceCtorEq, reduceIte, Bool.not_true, Bool.not_false, gEq_str, gEq_int, gAdd_int, le_line, Nat.reduceLeDiff, Nat.reduceEqDiff, ne_eq, not_false_eq_true, cast_2, cast_3, cast_4, cast_5, cast_1, cast_0, eq_self, decide_true, decide_false, flawD]
  · rw [e] at key ⊢
    rw [key]
    simp (config := { failIfUnchanged := false }) only [mOf, mOfZ, mOfR, asB_b, asL_l, asT_t, asRt_rt, asRt_nx, wp_asRt, wp_asB, wp_asL, wp_asT, wp_bind, wp_map, wp_some, wp_fLc, wp_iR1, wp_iA, wp_iE, wp_iS, wp_iR2, caseA_l, caseA_t, caseL_l, caseT_t, caseB_b, caseI_i, caseS_s, entry, List.length_cons, List.length_nil, List.replicate, List.cons_append, List.nil_append, Nat.reduceAdd, Nat.reduceSub, fV, fVx, fC, fB, fBN, fU, fUN, fL, fIsi_ap, fAndV, fOrV, fNotV, fTv, fNotT, fAndT, fOrT, fIf, fIfN, fCh, fCl, fClN, aNil, aD, aN, aP, fNil, fCons, fTup, fLst, sNil, sSeq, sSet, sSetM, sRet, sRetN, sIf, sBrk, sCnt, sDrop, sFor, rSeq, sFrz, iL, iT, iZ, oNone, oSome, fSlA, fSlL, fPot, sPot, gPot, sPotN, tName, tTupG, tsCons, tsNil, sPar, sPar3, notP, sUnp, wipeE, sApp, sExt, sSetIx, List.getElem?_cons_zero, List.getElem?_cons_succ, List.set_cons_zero, List.set_cons_succ, Option.bind_some, Option.map_some, Option.bind_none, Option.map_none, List.all_cons, List.all_nil, Sl.dp, Bool.and_true, Bool.true_and, and_self, and_true, true_and, if_true, if_false, ite_true, ite_false, Bool.false_eq_true, reduceCtorEq, reduceIte, Bool.not_true, Bool.not_false, gEq_str, gEq_int, gAdd_int, le_line, Nat.reduceLeDiff, Nat.reduceEqDiff, ne_eq, not_false_eq_true, cast_2, cast_3, cast_4, cast_5, cast_1, cast_0, eq_self, decide_true, decide_false]
end
end Pg

set_option maxHeartbeats 2000000
/-! PD: runs from outside. -/
namespace Pg
open PySem DL
set_option autoImplicit false
section
variable {S : Sht} {hs rs : List Int} {r : Int}
theorem e_want_standing (g : S.Ok) (st : Stand S.p hs) (π : Pt) : m_want_standing [.d S.d, .d (tup hs)] π = some (.none, π) := by
  unfold m_want_standing g_want_standing
  simp only [mOf, mOfZ, mOfR, asRt, entry, List.length_cons, List.length_nil, List.replicate, List.cons_append, List.nil_append, Nat.reduceAdd, Nat.reduceSub, fV, fVx, fC, fB, fBN, fU, fUN, fL, fIsi, fAndV, fOrV, fNotV, fTv, asB, asL, asT, fNotT, fAndT, fOrT, fIf, fIfN, fCh, fCl, fClN, aNil, aD, aN, aP, fNil, fCons, fTup, fLst, sNil, sSeq, sSet, sSetM, sRet, sRetN, sIf, sBrk, sCnt, sDrop, sFor, rSeq, sFrz, iL, iT, iS, iE, iZ, oNone, oSome, fSlA, fSlL, fPot, sPot, gPot, sPotN, List.getElem?_cons_zero, List.getElem?_cons_succ, List.set_cons_zero, List.set_cons_succ, Option.bind_some, Option.map_some, Option.bind_none, Option.map_none, List.all_cons, List.all_nil, Sl.dp, Bool.and_true, Bool.true_and, and_self, and_true, true_and, if_true, if_false, ite_true, ite_false, Bool.false_eq_true, reduceCtorEq, reduceIte, Bool.not_true, Bool.not_false, gEq_str, gEq_int, gAdd_int, le_line, Nat.reduceLeDiff, Nat.reduceEqDiff, ne_eq, not_false_eq_true, cast_2, cast_3, cast_4, cast_5, cast_1, cast_0, eq_self, decide_true, decide_false, gIx_tup, atI_1, e_is_standing g.p2 st]
theorem e_want_task (g : S.Ok) (h0 : 0 ≤ r) (h1 : r < S.ts.length) (π : Pt) : m_want_task [.d S.d, .d (.int r)] π = some (.none, π) := by
  have q : dIn 0 ((S.ts.length : Int) - 1) (.int r) = true := by
    simp only [dIn, Bool.and_eq_true, decide_eq_true_eq]
    omega
  unfold m_want_task g_want_task
  simp only [mOf, mOfZ, mOfR, asRt, entry, List.length_cons, List.length_nil, List.replicate, List.cons_append, List.nil_append, Nat.reduceAdd, Nat.reduceSub, fV, fVx, fC, fB, fBN, fU, fUN, fL, fIsi, fAndV, fOrV, fNotV, fTv, asB, asL, asT, fNotT, fAndT, fOrT, fIf, fIfN, fCh, fCl, fClN, aNil, aD, aN, aP, fNil, fCons, fTup, fLst, sNil, sSeq, sSet, sSetM, sRet, sRetN, sIf, sBrk, sCnt, sDrop, sFor, rSeq, sFrz, iL, iT, iS, iE, iZ, oNone, oSome, fSlA, fSlL, fPot, sPot, gPot, sPotN, List.getElem?_cons_zero, List.getElem?_cons_succ, List.set_cons_zero, List.set_cons_succ, Option.bind_some, Option.map_some, Option.bind_none, Option.map_none, List.all_cons, List.all_nil, Sl.dp, Bool.and_true, Bool.true_and, and_self, and_true, true_and, if_true, if_false, ite_true, ite_false, Bool.false_eq_true, reduceCtorEq, reduceIte, Bool.not_true, Bool.not_false, gEq_str, gEq_int, gAdd_int, le_line, Nat.reduceLeDiff, Nat.reduceEqDiff, ne_eq, not_false_eq_true, cast_2, cast_3, cast_4, cast_5, cast_1, cast_0, eq_self, decide_true, decide_false, gIx_tup, atI_2, gLen_tup, gSubI, e_is_within, q, List.length_map]
theorem e_is_list_run (l : Bool) (π : Pt) : m_is_list [.d (runD l rs)] π = some (.bool true, π) := by
  have i2 : gIsi2 "list" "tuple" (runD l rs) = some (.bool true) := by
    unfold gIsi2 runD
    rw [kit_list, kit_tuple]
    cases l <;> rfl
  unfold m_is_list g_is_list
  simp only [mOf, mOfZ, mOfR, asRt, entry, List.length_cons, List.length_nil, List.replicate, List.cons_append, List.nil_append, Nat.reduceAdd, Nat.reduceSub, fV, fVx, fC, fB, fBN, fU, fUN, fL, fIsi, fAndV, fOrV, fNotV, fTv, asB, asL, asT, fNotT, fAndT, fOrT, fIf, fIfN, fCh, fCl, fClN, aNil, aD, aN, aP, fNil, fCons, fTup, fLst, sNil, sSeq, sSet, sSetM, sRet, sRetN, sIf, sBrk, sCnt, sDrop, sFor, rSeq, sFrz, iL, iT, iS, iE, iZ, oNone, oSome, fSlA, fSlL, fPot, sPot, gPot, sPotN, List.getElem?_cons_zero, List.getElem?_cons_succ, List.set_cons_zero, List.set_cons_succ, Option.bind_some, Option.map_some, Option.bind_none, Option.map_none, List.all_cons, List.all_nil, Sl.dp, Bool.and_true, Bool.true_and, and_self, and_true, true_and, if_true, if_false, ite_true, ite_false, Bool.false_eq_true, reduceCtorEq, reduceIte, Bool.not_true, Bool.not_false, gEq_str, gEq_int, gAdd_int, le_line, Nat.reduceLeDiff, Nat.reduceEqDiff, ne_eq, not_false_eq_true, cast_2, cast_3, cast_4, cast_5, cast_1, cast_0, eq_self, decide_true, decide_false, i2]
theorem e_are_tasks (g : S.Ok) (l : Bool) {m : Int} (hr : ∀ r ∈ rs, 0 ≤ r ∧ r < S.ts.length) (hn : rs.length ≤ m) (hm : m ≤ 100000) (π : Pt) : m_are_tasks [.d S.d, .d (runD l rs), .d (.int m)] π = some (.bool true, π) := by
  have n4 : decide ((rs.length : Int) ≤ m) = true := by rw [decide_eq_true_eq]; omega
  unfold m_are_tasks g_are_tasks
  simp only [mOf, mOfZ, mOfR, asRt, entry, List.length_cons, List.length_nil, List.replicate, List.cons_append, List.nil_append, Nat.reduceAdd, Nat.reduceSub, fV, fVx, fC, fB, fBN, fU, fUN, fL, fIsi, fAndV, fOrV, fNotV, fTv, asB, asL, asT, fNotT, fAndT, fOrT, fIf, fIfN, fCh, fCl, fClN, aNil, aD, aN, aP, fNil, fCons, fTup, fLst, sNil, sSeq, sSet, sSetM, sRet, sRetN, sIf, sBrk, sCnt, sDrop, sFor, rSeq, sFrz, iL, iT, iS, iE, iZ, oNone, oSome, fSlA, fSlL, fPot, sPot, gPot, sPotN, List.getElem?_cons_zero, List.getElem?_cons_succ, List.set_cons_zero, List.set_cons_succ, Option.bind_some, Option.map_some, Option.bind_none, Option.map_none, List.all_cons, List.all_nil, Sl.dp, Bool.and_true, Bool.true_and, and_self, and_true, true_and, if_true, if_false, ite_true, ite_false, Bool.false_eq_true, reduceCtorEq, reduceIte, Bool.not_true, Bool.not_false, gEq_str, gEq_int, gAdd_int, le_line, Nat.reduceLeDiff, Nat.reduceEqDiff, ne_eq, not_false_eq_true, cast_2, cast_3, cast_4, cast_5, cast_1, cast_0, eq_self, decide_true, decide_false, e_is_list_run, runD_len, gLe, gCmp, n4]
  rw [fLc_map (ds := rs.map PyData.int) (π1 := π) (fun x => .bool (dIn 0 ((S.ts.length : Int) - 1) x))]
  · have ha : (rs.map PyData.int).all (dIn 0 ((S.ts.length : Int) - 1)) = true := by
      rw [List.all_eq_true]
      intro x hx
      obtain ⟨n, hn, rfl⟩ := List.mem_map.mp hx
      have := hr n hn
      simp only [dIn, Bool.and_eq_true, decide_eq_true_eq]
      omega
    simp only [mOf, mOfZ, mOfR, asRt, entry, List.length_cons, List.length_nil, List.replicate, List.cons_append, List.nil_append, Nat.reduceAdd, Nat.reduceSub, fV, fVx, fC, fB, fBN, fU, fUN, fL, fIsi, fAndV, fOrV, fNotV, fTv, asB, asL, asT, fNotT, fAndT, fOrT, fIf, fIfN, fCh, fCl, fClN, aNil, aD, aN, aP, fNil, fCons, fTup, fLst, sNil, sSeq, sSet, sSetM, sRet, sRetN, sIf, sBrk, sCnt, sDrop, sFor, rSeq, sFrz, iL, iT, iS, iE, iZ, oNone, oSome, fSlA, fSlL, fPot, sPot, gPot, sPotN, List.getElem?_cons_zero, List.getElem?_cons_succ, List.set_cons_zero, List.set_cons_succ, Option.bind_some, Option.map_some, Option.bind_none, Option.map_none, List.all_cons, List.all_nil, Sl.dp, Bool.and_true, Bool.true_and, and_self, and_true, true_and, if_true, if_false, ite_true, ite_false, Bool.false_eq_true, reduceCtorEq, reduceIte, Bool.not_true, Bool.not_false, gEq_str, gEq_int, gAdd_int, le_line, Nat.reduceLeDiff, Nat.reduceEqDiff, ne_eq, not_false_eq_true, cast_2, cast_3, cast_4, cast_5, cast_1, cast_0, eq_self, decide_true, decide_false, gAll_map, ha]
  · exact iA_run l rs _ _ π π rfl
  · exact len_line (by rw [List.length_map]; omega)
  · exact fun x hx => ⟨_, rfl, rfl, by simp only [mOf, mOfZ, mOfR, asRt, entry, List.length_cons, List.length_nil, List.replicate, List.cons_append, List.nil_append, Nat.reduceAdd, Nat.reduceSub, fV, fVx, fC, fB, fBN, fU, fUN, fL, fIsi, fAndV, fOrV, fNotV, fTv, asB, asL, asT, fNotT, fAndT, fOrT, fIf, fIfN, fCh, fCl, fClN, aNil, aD, aN, aP, fNil, fCons, fTup, fLst, sNil, sSeq, sSet, sSetM, sRet, sRetN, sIf, sBrk, sCnt, sDrop, sFor, rSeq, sFrz, iL, iT, iS, iE, iZ, oNone, oSome, fSlA, fSlL, fPot, sPot, gPot, sPotN, List.getElem?_cons_zero, List.getElem?_cons_succ, List.set_cons_zero, List.set_cons_succ, Option.bind_some, Option.map_some, Option.bind_none, Option.map_none, List.all_cons, List.all_nil, Sl.dp, Bool.and_true, Bool.true_and, and_self, and_true, true_and, if_true, if_false, ite_true, ite_false, Bool.false_eq_true, reduceCtorEq, reduceIte, Bool.not_true, Bool.not_false, gEq_str, gEq_int, gAdd_int, le_line, Nat.reduceLeDiff, Nat.reduceEqDiff, ne_eq, not_false_eq_true, cast_2, cast_3, cast_4, cast_5, cast_1, cast_0, eq_self, decide_true, decide_false, wipeE, e_is_within, gIx_tup, atI_2, gLen_tup, gSubI, List.length_map]⟩
theorem e_want_run (g : S.Ok) (l : Bool) (hr : ∀ r ∈ rs, 0 ≤ r ∧ r < S.ts.length) (hn : rs.length ≤ 400) (π : Pt) : m_want_run [.d S.d, .d (runD l rs)] π = some (.none, π) := by
  unfold m_want_run g_want_run
  simp only [mOf, mOfZ, mOfR, asRt, entry, List.length_cons, List.length_nil, List.replicate, List.cons_append, List.nil_append, Nat.reduceAdd, Nat.reduceSub, fV, fVx, fC, fB, fBN, fU, fUN, fL, fIsi, fAndV, fOrV, fNotV, fTv, asB, asL, asT, fNotT, fAndT, fOrT, fIf, fIfN, fCh, fCl, fClN, aNil, aD, aN, aP, fNil, fCons, fTup, fLst, sNil, sSeq, sSet, sSetM, sRet, sRetN, sIf, sBrk, sCnt, sDrop, sFor, rSeq, sFrz, iL, iT, iS, iE, iZ, oNone, oSome, fSlA, fSlL, fPot, sPot, gPot, sPotN, List.getElem?_cons_zero, List.getElem?_cons_succ, List.set_cons_zero, List.set_cons_succ, Option.bind_some, Option.map_some, Option.bind_none, Option.map_none, List.all_cons, List.all_nil, Sl.dp, Bool.and_true, Bool.true_and, and_self, and_true, true_and, if_true, if_false, ite_true, ite_false, Bool.false_eq_true, reduceCtorEq, reduceIte, Bool.not_true, Bool.not_false, gEq_str, gEq_int, gAdd_int, le_line, Nat.reduceLeDiff, Nat.reduceEqDiff, ne_eq, not_false_eq_true, cast_2, cast_3, cast_4, cast_5, cast_1, cast_0, eq_self, decide_true, decide_false, e_are_tasks g l (m := 400) hr (by omega) (by omega)]
theorem e_run_flaw (g : S.Ok) (st : Stand S.p hs) (l : Bool) (hr : ∀ r ∈ rs, 0 ≤ r ∧ r < S.ts.length) (hn : rs.length ≤ 400) (π : Pt) :
    m_run_flaw [.d S.d, .d (tup hs), .d (runD l rs)] π = some (flawD (S.gone hs 0 rs).1, π) := by
  unfold m_run_flaw g_run_flaw
  simp only [mOf, mOfZ, mOfR, asRt, entry, List.length_cons, List.length_nil, List.replicate, List.cons_append, List.nil_append, Nat.reduceAdd, Nat.reduceSub, fV, fVx, fC, fB, fBN, fU, fUN, fL, fIsi, fAndV, fOrV, fNotV, fTv, asB, asL, asT, fNotT, fAndT, fOrT, fIf, fIfN, fCh, fCl, fClN, aNil, aD, aN, aP, fNil, fCons, fTup, fLst, sNil, sSeq, sSet, sSetM, sRet, sRetN, sIf, sBrk, sCnt, sDrop, sFor, rSeq, sFrz, iL, iT, iS, iE, iZ, oNone, oSome, fSlA, fSlL, fPot, sPot, gPot, sPotN, List.getElem?_cons_zero, List.getElem?_cons_succ, List.set_cons_zero, List.set_cons_succ, Option.bind_some, Option.map_some, Option.bind_none, Option.map_none, List.all_cons, List.all_nil, Sl.dp, Bool.and_true, Bool.true_and, and_self, and_true, true_and, if_true, if_false, ite_true, ite_false, Bool.false_eq_true, reduceCtorEq, reduceIte, Bool.not_true, Bool.not_false, gEq_str, gEq_int, gAdd_int, le_line, Nat.reduceLeDiff, Nat.reduceEqDiff, ne_eq, not_false_eq_true, cast_2, cast_3, cast_4, cast_5, cast_1, cast_0, eq_self, decide_true, decide_false, e_want_sheet g, e_want_standing g st, e_want_run g l hr hn, e_first_wrong g l rs hs st.len hr]
theorem e_standing_behind (g : S.Ok) (st : Stand S.p hs) (l : Bool) (hr : ∀ r ∈ rs, 0 ≤ r ∧ r < S.ts.length) (hn : rs.length ≤ 400) (π : Pt) :
    m_standing_behind [.d S.d, .d (tup hs), .d (runD l rs)] π = some (hereD (S.gone hs 0 rs).2, π) := by
  unfold m_standing_behind g_standing_behind
  simp only [mOf, mOfZ, mOfR, asRt, entry, List.length_cons, List.length_nil, List.replicate, List.cons_append, List.nil_append, Nat.reduceAdd, Nat.reduceSub, fV, fVx, fC, fB, fBN, fU, fUN, fL, fIsi, fAndV, fOrV, fNotV, fTv, asB, asL, asT, fNotT, fAndT, fOrT, fIf, fIfN, fCh, fCl, fClN, aNil, aD, aN, aP, fNil, fCons, fTup, fLst, sNil, sSeq, sSet, sSetM, sRet, sRetN, sIf, sBrk, sCnt, sDrop, sFor, rSeq, sFrz, iL, iT, iS, iE, iZ, oNone, oSome, fSlA, fSlL, fPot, sPot, gPot, sPotN, List.getElem?_cons_zero, List.getElem?_cons_succ, List.set_cons_zero, List.set_cons_succ, Option.bind_some, Option.map_some, Option.bind_none, Option.map_none, List.all_cons, List.all_nil, Sl.dp, Bool.and_true, Bool.true_and, and_self, and_true, true_and, if_true, if_false, ite_true, ite_false, Bool.false_eq_true, reduceCtorEq, reduceIte, Bool.not_true, Bool.not_false, gEq_str, gEq_int, gAdd_int, le_line, Nat.reduceLeDiff, Nat.reduceEqDiff, ne_eq, not_false_eq_true, cast_2, cast_3, cast_4, cast_5, cast_1, cast_0, eq_self, decide_true, decide_false, e_want_sheet g, e_want_standing g st, e_want_run g l hr hn, e_led g l rs hs st.len hr]
theorem e_behind (g : S.Ok) (st : Stand S.p hs) (h0 : 0 ≤ r) (h1 : r < S.ts.length) (π : Pt) :
    m_behind [.d S.d, .d (tup hs), .d (.int r)] π = some (hereD (S.gone hs 0 [r]).2, π) := by
  have e := fun π => e_led g true [r] hs st.len (fun q hq => by rw [List.mem_singleton] at hq; rw [hq]; exact ⟨h0, h1⟩) π
  have er : runD true [r] = .list [.int r] := rfl
  rw [er] at e
  unfold m_behind g_behind
  simp only [mOf, mOfZ, mOfR, asRt, entry, List.length_cons, List.length_nil, List.replicate, List.cons_append, List.nil_append, Nat.reduceAdd, Nat.reduceSub, fV, fVx, fC, fB, fBN, fU, fUN, fL, fIsi, fAndV, fOrV, fNotV, fTv, asB, asL, asT, fNotT, fAndT, fOrT, fIf, fIfN, fCh, fCl, fClN, aNil, aD, aN, aP, fNil, fCons, fTup, fLst, sNil, sSeq, sSet, sSetM, sRet, sRetN, sIf, sBrk, sCnt, sDrop, sFor, rSeq, sFrz, iL, iT, iS, iE, iZ, oNone, oSome, fSlA, fSlL, fPot, sPot, gPot, sPotN, List.getElem?_cons_zero, List.getElem?_cons_succ, List.set_cons_zero, List.set_cons_succ, Option.bind_some, Option.map_some, Option.bind_none, Option.map_none, List.all_cons, List.all_nil, Sl.dp, Bool.and_true, Bool.true_and, and_self, and_true, true_and, if_true, if_false, ite_true, ite_false, Bool.false_eq_true, reduceCtorEq, reduceIte, Bool.not_true, Bool.not_false, gEq_str, gEq_int, gAdd_int, le_line, Nat.reduceLeDiff, Nat.reduceEqDiff, ne_eq, not_false_eq_true, cast_2, cast_3, cast_4, cast_5, cast_1, cast_0, eq_self, decide_true, decide_false, e_want_sheet g, e_want_standing g st, e_want_task g h0 h1, e]
/-! rows -/
def Sht.named (S : Sht) (r : Int) : Bool := !decide ((S.T r).nm = "")
def Sht.row (S : Sht) (rs : List Int) : List Str := (rs.filter S.named).map fun r => (S.T r).nm
def ixI (f : Int → PyData) : PyData → PyData
  | .int r => f r
  | _ => .none
def ixB (f : Int → Bool) : PyData → Bool
  | .int r => f r
  | _ => false
theorem fltI (p : Int → Bool) (f : Int → PyData) (rs : List Int) : ((rs.map PyData.int).filter (ixB p)).map (ixI f) = (rs.filter p).map f := by
  rw [List.filter_map, List.map_map]
  rfl
theorem e_row_along (g : S.Ok) (l : Bool) (hr : ∀ r ∈ rs, 0 ≤ r ∧ r < S.ts.length) (hn : rs.length ≤ 1000) (π : Pt) : m_row_along [.d S.d, .d (runD l rs)] π = some ((S.row rs).map PyData.str, π) := by
  have e : (S.row rs).map PyData.str = ((rs.map PyData.int).filter (ixB S.named)).map (ixI fun r => .str (S.T r).nm) := by
    rw [fltI, Sht.row, List.map_map]; rfl
  rw [e]
  unfold m_row_along g_row_along mOfR entry
  refine fLc_pure (ds := rs.map PyData.int) (π1 := π) (ixB S.named) (ixI fun r => .str (S.T r).nm) (iA_run l rs _ _ π π rfl) (len_line (by rw [List.length_map]; omega)) fun x hx => ?_
  obtain ⟨r, hm, rfl⟩ := List.mem_map.mp hx
  obtain ⟨r0, r1⟩ := hr r hm
  have at_ := Sht.at_ (S := S) r0 r1
  refine ⟨_, rfl, ?_, fun _ => ?_⟩
  · simp only [mOf, mOfZ, mOfR, asRt, entry, List.length_cons, List.length_nil, List.replicate, List.cons_append, List.nil_append, Nat.reduceAdd, Nat.reduceSub, fV, fVx, fC, fB, fBN, fU, fUN, fL, fIsi, fAndV, fOrV, fNotV, fTv, asB, asL, asT, fNotT, fAndT, fOrT, fIf, fIfN, fCh, fCl, fClN, aNil, aD, aN, aP, fNil, fCons, fTup, fLst, sNil, sSeq, sSet, sSetM, sRet, sRetN, sIf, sBrk, sCnt, sDrop, sFor, rSeq, sFrz, iL, iT, iS, iE, iZ, oNone, oSome, fSlA, fSlL, fPot, sPot, gPot, sPotN, List.getElem?_cons_zero, List.getElem?_cons_succ, List.set_cons_zero, List.set_cons_succ, Option.bind_some, Option.map_some, Option.bind_none, Option.map_none, List.all_cons, List.all_nil, Sl.dp, Bool.and_true, Bool.true_and, and_self, and_true, true_and, if_true, if_false, ite_true, ite_false, Bool.false_eq_true, reduceCtorEq, reduceIte, Bool.not_true, Bool.not_false, gEq_str, gEq_int, gAdd_int, le_line, Nat.reduceLeDiff, Nat.reduceEqDiff, ne_eq, not_false_eq_true, cast_2, cast_3, cast_4, cast_5, cast_1, cast_0, eq_self, decide_true, decide_false, wipeE, gIx_tup, atI_2, at_, atI_0, ixB, Sht.named]
  · simp only [mOf, mOfZ, mOfR, asRt, entry, List.length_cons, List.length_nil, List.replicate, List.cons_append, List.nil_append, Nat.reduceAdd, Nat.reduceSub, fV, fVx, fC, fB, fBN, fU, fUN, fL, fIsi, fAndV, fOrV, fNotV, fTv, asB, asL, asT, fNotT, fAndT, fOrT, fIf, fIfN, fCh, fCl, fClN, aNil, aD, aN, aP, fNil, fCons, fTup, fLst, sNil, sSeq, sSet, sSetM, sRet, sRetN, sIf, sBrk, sCnt, sDrop, sFor, rSeq, sFrz, iL, iT, iS, iE, iZ, oNone, oSome, fSlA, fSlL, fPot, sPot, gPot, sPotN, List.getElem?_cons_zero, List.getElem?_cons_succ, List.set_cons_zero, List.set_cons_succ, Option.bind_some, Option.map_some, Option.bind_none, Option.map_none, List.all_cons, List.all_nil, Sl.dp, Bool.and_true, Bool.true_and, and_self, and_true, true_and, if_true, if_false, ite_true, ite_false, Bool.false_eq_true, reduceCtorEq, reduceIte, Bool.not_true, Bool.not_false, gEq_str, gEq_int, gAdd_int, le_line, Nat.reduceLeDiff, Nat.reduceEqDiff, ne_eq, not_false_eq_true, cast_2, cast_3, cast_4, cast_5, cast_1, cast_0, eq_self, decide_true, decide_false, wipeE, gIx_tup, atI_2, at_, atI_0, ixI]
theorem e_row_of (g : S.Ok) (l : Bool) (hr : ∀ r ∈ rs, 0 ≤ r ∧ r < S.ts.length) (hn : rs.length ≤ 400) (π : Pt) : m_row_of [.d S.d, .d (runD l rs)] π = some ((S.row rs).map PyData.str, π) := by
  unfold m_row_of g_row_of
  simp only [mOf, mOfZ, mOfR, asRt, entry, List.length_cons, List.length_nil, List.replicate, List.cons_append, List.nil_append, Nat.reduceAdd, Nat.reduceSub, fV, fVx, fC, fB, fBN, fU, fUN, fL, fIsi, fAndV, fOrV, fNotV, fTv, asB, asL, asT, fNotT, fAndT, fOrT, fIf, fIfN, fCh, fCl, fClN, aNil, aD, aN, aP, fNil, fCons, fTup, fLst, sNil, sSeq, sSet, sSetM, sRet, sRetN, sIf, sBrk, sCnt, sDrop, sFor, rSeq, sFrz, iL, iT, iS, iE, iZ, oNone, oSome, fSlA, fSlL, fPot, sPot, gPot, sPotN, List.getElem?_cons_zero, List.getElem?_cons_succ, List.set_cons_zero, List.set_cons_succ, Option.bind_some, Option.map_some, Option.bind_none, Option.map_none, List.all_cons, List.all_nil, Sl.dp, Bool.and_true, Bool.true_and, and_self, and_true, true_and, if_true, if_false, ite_true, ite_false, Bool.false_eq_true, reduceCtorEq, reduceIte, Bool.not_true, Bool.not_false, gEq_str, gEq_int, gAdd_int, le_line, Nat.reduceLeDiff, Nat.reduceEqDiff, ne_eq, not_false_eq_true, cast_2, cast_3, cast_4, cast_5, cast_1, cast_0, eq_self, decide_true, decide_false, e_want_sheet g, e_want_run g l hr hn, e_row_along g l hr (by omega)]
/-- the numbers of the tasks -/
def ups (n : Nat) : List Int := (List.range n).map fun i : Nat => (i : Int)
theorem ups_upTo (n : Nat) : DL.upTo 0 n = (ups n).map PyData.int := by
  unfold DL.upTo ups
  rw [List.map_map]
  apply List.map_congr_left
  intro i _
  show PyData.int (0 + (i : Int)) = PyData.int (i : Int)
  rw [Int.zero_add]
theorem ups_mem {n : Nat} {r : Int} (h : r ∈ ups n) : 0 ≤ r ∧ r < n := by
  unfold ups at h
  obtain ⟨i, hi, rfl⟩ := List.mem_map.mp h
  have := List.mem_range.mp hi
  omega
theorem ups_len (n : Nat) : (ups n).length = n := by unfold ups; rw [List.length_map, List.length_range]
def Sht.do (S : Sht) (hs : List Int) : List Int := (ups S.ts.length).filter (S.can hs)
theorem iR1_to {f : MX} {ρ : Ev} {π π' : Pt} {n : Int} (h : f ρ π = some (.int n, π')) (h0 : 0 ≤ n) (h1 : n ≤ 1000000) : iR1 f ρ π = some (DL.upTo 0 n.toNat, π') := by
  have q : okR n = true := okR_of (by omega) (by omega)
  unfold iR1
  rw [h]
  simp only [q, if_true]
theorem natI {n : Nat} (h1 : n ≤ 1000000) : (n : Int) ≤ 1000000 := by omega
theorem iR1_of {f : MX} {ρ : Ev} {π π' : Pt} {n : Nat} (h : f ρ π = some (.int (n : Int), π')) (h1 : n ≤ 1000000) : iR1 f ρ π = some ((ups n).map PyData.int, π') := by
  have e := iR1_to h (Int.natCast_nonneg n) (natI h1)
  have e2 : DL.upTo 0 (n : Int).toNat = (ups n).map PyData.int := by rw [Int.toNat_natCast]; exact ups_upTo n
  exact e.trans (congrArg (fun z => some (z, π')) e2)
theorem e_can_be_done (g : S.Ok) (st : Stand S.p hs) (π : Pt) : m_can_be_done [.d S.d, .d (tup hs)] π = some (.list ((S.do hs).map PyData.int), π) := by
  have ht2 := g.t2
  have e : (S.do hs).map PyData.int = (((ups S.ts.length).map PyData.int).filter (ixB (S.can hs))).map (ixI PyData.int) := by
    rw [fltI, Sht.do]
  unfold m_can_be_done g_can_be_done
  rw [e]
  simp only [mOf, mOfZ, mOfR, asRt, entry, List.length_cons, List.length_nil, List.replicate, List.cons_append, List.nil_append, Nat.reduceAdd, Nat.reduceSub, fV, fVx, fC, fB, fBN, fU, fUN, fL, fIsi, fAndV, fOrV, fNotV, fTv, asB, asL, asT, fNotT, fAndT, fOrT, fIf, fIfN, fCh, fCl, fClN, aNil, aD, aN, aP, fNil, fCons, fTup, fLst, sNil, sSeq, sSet, sSetM, sRet, sRetN, sIf, sBrk, sCnt, sDrop, sFor, rSeq, sFrz, iL, iT, iS, iE, iZ, oNone, oSome, fSlA, fSlL, fPot, sPot, gPot, sPotN, List.getElem?_cons_zero, List.getElem?_cons_succ, List.set_cons_zero, List.set_cons_succ, Option.bind_some, Option.map_some, Option.bind_none, Option.map_none, List.all_cons, List.all_nil, Sl.dp, Bool.and_true, Bool.true_and, and_self, and_true, true_and, if_true, if_false, ite_true, ite_false, Bool.false_eq_true, reduceCtorEq, reduceIte, Bool.not_true, Bool.not_false, gEq_str, gEq_int, gAdd_int, le_line, Nat.reduceLeDiff, Nat.reduceEqDiff, ne_eq, not_false_eq_true, cast_2, cast_3, cast_4, cast_5, cast_1, cast_0, eq_self, decide_true, decide_false, e_want_sheet g, e_want_standing g st]
  rw [fLc_pure (ds := (ups S.ts.length).map PyData.int) (π1 := π) (ixB (S.can hs)) (ixI PyData.int)]
  · simp only [mOf, mOfZ, mOfR, asRt, entry, List.length_cons, List.length_nil, List.replicate, List.cons_append, List.nil_append, Nat.reduceAdd, Nat.reduceSub, fV, fVx, fC, fB, fBN, fU, fUN, fL, fIsi, fAndV, fOrV, fNotV, fTv, asB, asL, asT, fNotT, fAndT, fOrT, fIf, fIfN, fCh, fCl, fClN, aNil, aD, aN, aP, fNil, fCons, fTup, fLst, sNil, sSeq, sSet, sSetM, sRet, sRetN, sIf, sBrk, sCnt, sDrop, sFor, rSeq, sFrz, iL, iT, iS, iE, iZ, oNone, oSome, fSlA, fSlL, fPot, sPot, gPot, sPotN, List.getElem?_cons_zero, List.getElem?_cons_succ, List.set_cons_zero, List.set_cons_succ, Option.bind_some, Option.map_some, Option.bind_none, Option.map_none, List.all_cons, List.all_nil, Sl.dp, Bool.and_true, Bool.true_and, and_self, and_true, true_and, if_true, if_false, ite_true, ite_false, Bool.false_eq_true, reduceCtorEq, reduceIte, Bool.not_true, Bool.not_false, gEq_str, gEq_int, gAdd_int, le_line, Nat.reduceLeDiff, Nat.reduceEqDiff, ne_eq, not_false_eq_true, cast_2, cast_3, cast_4, cast_5, cast_1, cast_0, eq_self, decide_true, decide_false]
  · exact iR1_of (by simp only [mOf, mOfZ, mOfR, asRt, entry, List.length_cons, List.length_nil, List.replicate, List.cons_append, List.nil_append, Nat.reduceAdd, Nat.reduceSub, fV, fVx, fC, fB, fBN, fU, fUN, fL, fIsi, fAndV, fOrV, fNotV, fTv, asB, asL, asT, fNotT, fAndT, fOrT, fIf, fIfN, fCh, fCl, fClN, aNil, aD, aN, aP, fNil, fCons, fTup, fLst, sNil, sSeq, sSet, sSetM, sRet, sRetN, sIf, sBrk, sCnt, sDrop, sFor, rSeq, sFrz, iL, iT, iS, iE, iZ, oNone, oSome, fSlA, fSlL, fPot, sPot, gPot, sPotN, List.getElem?_cons_zero, List.getElem?_cons_succ, List.set_cons_zero, List.set_cons_succ, Option.bind_some, Option.map_some, Option.bind_none, Option.map_none, List.all_cons, List.all_nil, Sl.dp, Bool.and_true, Bool.true_and, and_self, and_true, true_and, if_true, if_false, ite_true, ite_false, Bool.false_eq_true, reduceCtorEq, reduceIte, Bool.not_true, Bool.not_false, gEq_str, gEq_int, gAdd_int, le_line, Nat.reduceLeDiff, Nat.reduceEqDiff, ne_eq, not_false_eq_true, cast_2, cast_3, cast_4, cast_5, cast_1, cast_0, eq_self, decide_true, decide_false, gIx_tup, atI_2, gLen_tup, List.length_map]) (by omega)
  · exact len_line (by rw [List.length_map, ups_len]; omega)
  · intro x hx
    obtain ⟨r, hr, rfl⟩ := List.mem_map.mp hx
    obtain ⟨r0, r1⟩ := ups_mem hr
    refine ⟨_, rfl, ?_, fun _ => ?_⟩
    · simp only [mOf, mOfZ, mOfR, asRt, entry, List.length_cons, List.length_nil, List.replicate, List.cons_append, List.nil_append, Nat.reduceAdd, Nat.reduceSub, fV, fVx, fC, fB, fBN, fU, fUN, fL, fIsi, fAndV, fOrV, fNotV, fTv, asB, asL, asT, fNotT, fAndT, fOrT, fIf, fIfN, fCh, fCl, fClN, aNil, aD, aN, aP, fNil, fCons, fTup, fLst, sNil, sSeq, sSet, sSetM, sRet, sRetN, sIf, sBrk, sCnt, sDrop, sFor, rSeq, sFrz, iL, iT, iS, iE, iZ, oNone, oSome, fSlA, fSlL, fPot, sPot, gPot, sPotN, List.getElem?_cons_zero, List.getElem?_cons_succ, List.set_cons_zero, List.set_cons_succ, Option.bind_some, Option.map_some, Option.bind_none, Option.map_none, List.all_cons, List.all_nil, Sl.dp, Bool.and_true, Bool.true_and, and_self, and_true, true_and, if_true, if_false, ite_true, ite_false, Bool.false_eq_true, reduceCtorEq, reduceIte, Bool.not_true, Bool.not_false, gEq_str, gEq_int, gAdd_int, le_line, Nat.reduceLeDiff, Nat.reduceEqDiff, ne_eq, not_false_eq_true, cast_2, cast_3, cast_4, cast_5, cast_1, cast_0, eq_self, decide_true, decide_false, wipeE, e_can_do g st.len r0 r1, ixB]
    · simp only [mOf, mOfZ, mOfR, asRt, entry, List.length_cons, List.length_nil, List.replicate, List.cons_append, List.nil_append, Nat.reduceAdd, Nat.reduceSub, fV, fVx, fC, fB, fBN, fU, fUN, fL, fIsi, fAndV, fOrV, fNotV, fTv, asB, asL, asT, fNotT, fAndT, fOrT, fIf, fIfN, fCh, fCl, fClN, aNil, aD, aN, aP, fNil, fCons, fTup, fLst, sNil, sSeq, sSet, sSetM, sRet, sRetN, sIf, sBrk, sCnt, sDrop, sFor, rSeq, sFrz, iL, iT, iS, iE, iZ, oNone, oSome, fSlA, fSlL, fPot, sPot, gPot, sPotN, List.getElem?_cons_zero, List.getElem?_cons_succ, List.set_cons_zero, List.set_cons_succ, Option.bind_some, Option.map_some, Option.bind_none, Option.map_none, List.all_cons, List.all_nil, Sl.dp, Bool.and_true, Bool.true_and, and_self, and_true, true_and, if_true, if_false, ite_true, ite_false, Bool.false_eq_true, reduceCtorEq, reduceIte, Bool.not_true, Bool.not_false, gEq_str, gEq_int, gAdd_int, le_line, Nat.reduceLeDiff, Nat.reduceEqDiff, ne_eq, not_false_eq_true, cast_2, cast_3, cast_4, cast_5, cast_1, cast_0, eq_self, decide_true, decide_false, wipeE, ixI]
theorem eqvAll_int (a b : List Int) : PyData.eqvAll (a.map PyData.int) (b.map PyData.int) = decide (a = b) := eqvAll_ints a b
theorem gEq_tups (neg : Bool) (a b : List Int) : gEq neg (tup a) (tup b) = some (.bool (if neg = true then !decide (a = b) else decide (a = b))) := by
  simp only [gEq, shapedT_ints, and_self, if_true, PyData.eqv, eqvAll_ints]
theorem gEq_noneT (neg : Bool) (b : List Int) : gEq neg .none (tup b) = some (.bool (if neg = true then true else false)) := by
  have s : SeqAt.shaped .none = true := by decide +kernel
  have e : PyData.eqv .none (tup b) = false := by simp [PyData.eqv]
  simp only [gEq, shapedT_ints, s, and_self, if_true, e, Bool.not_false]
theorem gEq_here (o : Option (List Int)) (b : List Int) : gEq false (hereD o) (tup b) = some (.bool (decide (o = some b))) := by
  cases o with
  | none => rw [hereD, gEq_noneT]; simp
  | some a => rw [hereD, gEq_tups]; simp
theorem e_is_whole_run (g : S.Ok) (l : Bool) (hr : ∀ r ∈ rs, 0 ≤ r ∧ r < S.ts.length) (hn : rs.length ≤ 400) (π : Pt) : m_is_whole_run [.d S.d, .d (runD l rs)] π = some (.bool (decide ((S.gone S.fs 0 rs).2 = some S.ls)), π) := by
  unfold m_is_whole_run g_is_whole_run
  simp only [mOf, mOfZ, mOfR, asRt, entry, List.length_cons, List.length_nil, List.replicate, List.cons_append, List.nil_append, Nat.reduceAdd, Nat.reduceSub, fV, fVx, fC, fB, fBN, fU, fUN, fL, fIsi, fAndV, fOrV, fNotV, fTv, asB, asL, asT, fNotT, fAndT, fOrT, fIf, fIfN, fCh, fCl, fClN, aNil, aD, aN, aP, fNil, fCons, fTup, fLst, sNil, sSeq, sSet, sSetM, sRet, sRetN, sIf, sBrk, sCnt, sDrop, sFor, rSeq, sFrz, iL, iT, iS, iE, iZ, oNone, oSome, fSlA, fSlL, fPot, sPot, gPot, sPotN, List.getElem?_cons_zero, List.getElem?_cons_succ, List.set_cons_zero, List.set_cons_succ, Option.bind_some, Option.map_some, Option.bind_none, Option.map_none, List.all_cons, List.all_nil, Sl.dp, Bool.and_true, Bool.true_and, and_self, and_true, true_and, if_true, if_false, ite_true, ite_false, Bool.false_eq_true, reduceCtorEq, reduceIte, Bool.not_true, Bool.not_false, gEq_str, gEq_int, gAdd_int, le_line, Nat.reduceLeDiff, Nat.reduceEqDiff, ne_eq, not_false_eq_true, cast_2, cast_3, cast_4, cast_5, cast_1, cast_0, eq_self, decide_true, decide_false, e_want_sheet g, e_want_run g l hr hn, gIx_tup, atI_3, atI_4, e_led g l rs S.fs g.f.len hr, gEq_here]
end
end Pg

set_option maxHeartbeats 0
namespace Law11
open PySem PySem.Spec PyProof.Rows L2 DL Pg
set_option autoImplicit false
abbrev PW : Program := PySem.Challenge.pw_caseworks_k11_whole_runs_and_rows
def top (i : Nat) : Stmt := PW.main.body.getD i (.Pass ⟨0, 0, 0, 0⟩)
structure Gs (K : PySem.W.Frag) (mg : Str → Option Value) : Prop where
  d__law_pot : ∃ fd, FunD K "_law_pot" "_law_pot" (defArgs (top 45)) (defBody (top 45)) (defScope (top 45)) [] [] (He.ga K "_law_pot") fd
  g__law_pot : mg "_law_pot" = some (.ref (He.ga K "_law_pot"))
  d__law_draw : ∃ fd, FunD K "_law_draw" "_law_draw" (defArgs (top 46)) (defBody (top 46)) (defScope (top 46)) [] [] (He.ga K "_law_draw") fd
  g__law_draw : mg "_law_draw" = some (.ref (He.ga K "_law_draw"))
  d__law_pick : ∃ fd, FunD K "_law_pick" "_law_pick" (defArgs (top 47)) (defBody (top 47)) (defScope (top 47)) [] [] (He.ga K "_law_pick") fd
  g__law_pick : mg "_law_pick" = some (.ref (He.ga K "_law_pick"))
  d__law_behind : ∃ fd, FunD K "_law_behind" "_law_behind" (defArgs (top 50)) (defBody (top 50)) (defScope (top 50)) [] [] (He.ga K "_law_behind") fd
  g__law_behind : mg "_law_behind" = some (.ref (He.ga K "_law_behind"))
  d__law_gone : ∃ fd, FunD K "_law_gone" "_law_gone" (defArgs (top 51)) (defBody (top 51)) (defScope (top 51)) [] [] (He.ga K "_law_gone") fd
  g__law_gone : mg "_law_gone" = some (.ref (He.ga K "_law_gone"))
  d_is_tuple : ∃ fd, FunD K "is_tuple" "is_tuple" (defArgs (top 4)) (defBody (top 4)) (defScope (top 4)) [] [] (He.ga K "is_tuple") fd
  g_is_tuple : mg "is_tuple" = some (.ref (He.ga K "is_tuple"))
  d_is_integer : ∃ fd, FunD K "is_integer" "is_integer" (defArgs (top 1)) (defBody (top 1)) (defScope (top 1)) [] [] (He.ga K "is_integer") fd
  g_is_integer : mg "is_integer" = some (.ref (He.ga K "is_integer"))
  d_is_within : ∃ fd, FunD K "is_within" "is_within" (defArgs (top 2)) (defBody (top 2)) (defScope (top 2)) [] [] (He.ga K "is_within") fd
  g_is_within : mg "is_within" = some (.ref (He.ga K "is_within"))
  d_is_standing_of : ∃ fd, FunD K "is_standing_of" "is_standing_of" (defArgs (top 22)) (defBody (top 22)) (defScope (top 22)) [] [] (He.ga K "is_standing_of") fd
  g_is_standing_of : mg "is_standing_of" = some (.ref (He.ga K "is_standing_of"))
  d_are_rising : ∃ fd, FunD K "are_rising" "are_rising" (defArgs (top 5)) (defBody (top 5)) (defScope (top 5)) [] [] (He.ga K "are_rising") fd
  g_are_rising : mg "are_rising" = some (.ref (He.ga K "are_rising"))
  d_are_places : ∃ fd, FunD K "are_places" "are_places" (defArgs (top 21)) (defBody (top 21)) (defScope (top 21)) [] [] (He.ga K "are_places") fd
  g_are_places : mg "are_places" = some (.ref (He.ga K "are_places"))
  d_is_name : ∃ fd, FunD K "is_name" "is_name" (defArgs (top 20)) (defBody (top 20)) (defScope (top 20)) [] [] (He.ga K "is_name") fd
  g_is_name : mg "is_name" = some (.ref (He.ga K "is_name"))
  d_is_task_of : ∃ fd, FunD K "is_task_of" "is_task_of" (defArgs (top 23)) (defBody (top 23)) (defScope (top 23)) [] [] (He.ga K "is_task_of") fd
  g_is_task_of : mg "is_task_of" = some (.ref (He.ga K "is_task_of"))
  d_is_sheet : ∃ fd, FunD K "is_sheet" "is_sheet" (defArgs (top 24)) (defBody (top 24)) (defScope (top 24)) [] [] (He.ga K "is_sheet") fd
  g_is_sheet : mg "is_sheet" = some (.ref (He.ga K "is_sheet"))
  d_want_sheet : ∃ fd, FunD K "want_sheet" "want_sheet" (defArgs (top 25)) (defBody (top 25)) (defScope (top 25)) [] [] (He.ga K "want_sheet") fd
  g_want_sheet : mg "want_sheet" = some (.ref (He.ga K "want_sheet"))
  d_want_standing : ∃ fd, FunD K "want_standing" "want_standing" (defArgs (top 26)) (defBody (top 26)) (defScope (top 26)) [] [] (He.ga K "want_standing") fd
  g_want_standing : mg "want_standing" = some (.ref (He.ga K "want_standing"))
  d_is_list : ∃ fd, FunD K "is_list" "is_list" (defArgs (top 3)) (defBody (top 3)) (defScope (top 3)) [] [] (He.ga K "is_list") fd
  g_is_list : mg "is_list" = some (.ref (He.ga K "is_list"))
  d_are_tasks : ∃ fd, FunD K "are_tasks" "are_tasks" (defArgs (top 28)) (defBody (top 28)) (defScope (top 28)) [] [] (He.ga K "are_tasks") fd
  g_are_tasks : mg "are_tasks" = some (.ref (He.ga K "are_tasks"))
  d_want_run : ∃ fd, FunD K "want_run" "want_run" (defArgs (top 29)) (defBody (top 29)) (defScope (top 29)) [] [] (He.ga K "want_run") fd
  g_want_run : mg "want_run" = some (.ref (He.ga K "want_run"))
  d_behind_task : ∃ fd, FunD K "behind_task" "behind_task" (defArgs (top 31)) (defBody (top 31)) (defScope (top 31)) [] [] (He.ga K "behind_task") fd
  g_behind_task : mg "behind_task" = some (.ref (He.ga K "behind_task"))
  d_can_do : ∃ fd, FunD K "can_do" "can_do" (defArgs (top 30)) (defBody (top 30)) (defScope (top 30)) [] [] (He.ga K "can_do") fd
  g_can_do : mg "can_do" = some (.ref (He.ga K "can_do"))
  d_first_wrong : ∃ fd, FunD K "first_wrong" "first_wrong" (defArgs (top 37)) (defBody (top 37)) (defScope (top 37)) [] [] (He.ga K "first_wrong") fd
  g_first_wrong : mg "first_wrong" = some (.ref (He.ga K "first_wrong"))
  d_run_flaw : ∃ fd, FunD K "run_flaw" "run_flaw" (defArgs (top 40)) (defBody (top 40)) (defScope (top 40)) [] [] (He.ga K "run_flaw") fd
  g_run_flaw : mg "run_flaw" = some (.ref (He.ga K "run_flaw"))
  d_led : ∃ fd, FunD K "led" "led" (defArgs (top 32)) (defBody (top 32)) (defScope (top 32)) [] [] (He.ga K "led") fd
  g_led : mg "led" = some (.ref (He.ga K "led"))
  d_standing_behind : ∃ fd, FunD K "standing_behind" "standing_behind" (defArgs (top 41)) (defBody (top 41)) (defScope (top 41)) [] [] (He.ga K "standing_behind") fd
  g_standing_behind : mg "standing_behind" = some (.ref (He.ga K "standing_behind"))
  d_row_along : ∃ fd, FunD K "row_along" "row_along" (defArgs (top 33)) (defBody (top 33)) (defScope (top 33)) [] [] (He.ga K "row_along") fd
  g_row_along : mg "row_along" = some (.ref (He.ga K "row_along"))
  d_row_of : ∃ fd, FunD K "row_of" "row_of" (defArgs (top 42)) (defBody (top 42)) (defScope (top 42)) [] [] (He.ga K "row_of") fd
  g_row_of : mg "row_of" = some (.ref (He.ga K "row_of"))
  d_is_whole_run : ∃ fd, FunD K "is_whole_run" "is_whole_run" (defArgs (top 43)) (defBody (top 43)) (defScope (top 43)) [] [] (He.ga K "is_whole_run") fd
  g_is_whole_run : mg "is_whole_run" = some (.ref (He.ga K "is_whole_run"))
  d__law_run_right : ∃ fd, FunD K "_law_run_right" "_law_run_right" (defArgs (top 53)) (defBody (top 53)) (defScope (top 53)) [] [] (He.ga K "_law_run_right") fd
  g__law_run_right : mg "_law_run_right" = some (.ref (He.ga K "_law_run_right"))
  d__law_lot : ∃ fd, FunD K "_law_lot" "_law_lot" (defArgs (top 48)) (defBody (top 48)) (defScope (top 48)) [] [] (He.ga K "_law_lot") fd
  g__law_lot : mg "_law_lot" = some (.ref (He.ga K "_law_lot"))
  d__law_sheet : ∃ fd, FunD K "_law_sheet" "_law_sheet" (defArgs (top 49)) (defBody (top 49)) (defScope (top 49)) [] [] (He.ga K "_law_sheet") fd
  g__law_sheet : mg "_law_sheet" = some (.ref (He.ga K "_law_sheet"))
  d__law_run : ∃ fd, FunD K "_law_run" "_law_run" (defArgs (top 54)) (defBody (top 54)) (defScope (top 54)) [] [] (He.ga K "_law_run") fd
  g__law_run : mg "_law_run" = some (.ref (He.ga K "_law_run"))
  d_can_be_done : ∃ fd, FunD K "can_be_done" "can_be_done" (defArgs (top 38)) (defBody (top 38)) (defScope (top 38)) [] [] (He.ga K "can_be_done") fd
  g_can_be_done : mg "can_be_done" = some (.ref (He.ga K "can_be_done"))
  d_want_task : ∃ fd, FunD K "want_task" "want_task" (defArgs (top 27)) (defBody (top 27)) (defScope (top 27)) [] [] (He.ga K "want_task") fd
  g_want_task : mg "want_task" = some (.ref (He.ga K "want_task"))
  d_behind : ∃ fd, FunD K "behind" "behind" (defArgs (top 39)) (defBody (top 39)) (defScope (top 39)) [] [] (He.ga K "behind") fd
  g_behind : mg "behind" = some (.ref (He.ga K "behind"))
  d__law_steps_right : ∃ fd, FunD K "_law_steps_right" "_law_steps_right" (defArgs (top 52)) (defBody (top 52)) (defScope (top 52)) [] [] (He.ga K "_law_steps_right") fd
  g__law_steps_right : mg "_law_steps_right" = some (.ref (He.ga K "_law_steps_right"))
  d__law_right : ∃ fd, FunD K "_law_right" "_law_right" (defArgs (top 55)) (defBody (top 55)) (defScope (top 55)) [] [] (He.ga K "_law_right") fd
  g__law_right : mg "_law_right" = some (.ref (He.ga K "_law_right"))
  d_law : ∃ fd, FunD K "law" "law" (defArgs (top 56)) (defBody (top 56)) (defScope (top 56)) [] [] (He.ga K "law") fd
  g_law : mg "law" = some (.ref (He.ga K "law"))
  b_abs : mg "abs" = none
  b_all : mg "all" = none
  b_any : mg "any" = none
  b_bool : mg "bool" = none
  b_divmod : mg "divmod" = none
  b_enumerate : mg "enumerate" = none
  b_int : mg "int" = none
  b_isinstance : mg "isinstance" = none
  b_len : mg "len" = none
  b_list : mg "list" = none
  b_max : mg "max" = none
  b_range : mg "range" = none
  b_repr : mg "repr" = none
  b_sorted : mg "sorted" = none
  b_str : mg "str" = none
  b_sum : mg "sum" = none
  b_tuple : mg "tuple" = none
  b_zip : mg "zip" = none
  c_LETTERS : ∃ t, mg "LETTERS" = some (.str "abcdefghijklmnopqrstuvwxyz" t)
  c_MOST_PLACES : ∃ t, mg "MOST_PLACES" = some (.int 16 t)
  c_MOST_RUN : ∃ t, mg "MOST_RUN" = some (.int 400 t)
  c_MOST_SIGNS : ∃ t, mg "MOST_SIGNS" = some (.int 12 t)
  c_MOST_TASKS : ∃ t, mg "MOST_TASKS" = some (.int 24 t)
  c_MOST_TOKENS : ∃ t, mg "MOST_TOKENS" = some (.int 9 t)
  c_NOT : ∃ t, mg "NOT" = some (.str "not" t)
  c_SIGNS : ∃ t, mg "SIGNS" = some (.str "abcdefghijklmnopqrstuvwxyz0123456789_" t)
  c_SPILLS : ∃ t, mg "SPILLS" = some (.str "spills" t)
def tb : TabS := []
def fn : List He.DefD := [⟨("_law_pot", none), "_law_pot", "_law_pot", defArgs (top 45), defBody (top 45), defScope (top 45), [], []⟩,
  ⟨("_law_draw", none), "_law_draw", "_law_draw", defArgs (top 46), defBody (top 46), defScope (top 46), [], []⟩,
  ⟨("_law_pick", none), "_law_pick", "_law_pick", defArgs (top 47), defBody (top 47), defScope (top 47), [], []⟩,
  ⟨("_law_behind", none), "_law_behind", "_law_behind", defArgs (top 50), defBody (top 50), defScope (top 50), [], []⟩,
  ⟨("_law_gone", none), "_law_gone", "_law_gone", defArgs (top 51), defBody (top 51), defScope (top 51), [], []⟩,
  ⟨("is_tuple", none), "is_tuple", "is_tuple", defArgs (top 4), defBody (top 4), defScope (top 4), [], []⟩,
  ⟨("is_integer", none), "is_integer", "is_integer", defArgs (top 1), defBody (top 1), defScope (top 1), [], []⟩,
  ⟨("is_within", none), "is_within", "is_within", defArgs (top 2), defBody (top 2), defScope (top 2), [], []⟩,
  ⟨("is_standing_of", none), "is_standing_of", "is_standing_of", defArgs (top 22), defBody (top 22), defScope (top 22), [], []⟩,
  ⟨("are_rising", none), "are_rising", "are_rising", defArgs (top 5), defBody (top 5), defScope (top 5), [], []⟩,
  ⟨("are_places", none), "are_places", "are_places", defArgs (top 21), defBody (top 21), defScope (top 21), [], []⟩,
  ⟨("is_name", none), "is_name", "is_name", defArgs (top 20), defBody (top 20), defScope (top 20), [], []⟩,
  ⟨("is_task_of", none), "is_task_of", "is_task_of", defArgs (top 23), defBody (top 23), defScope (top 23), [], []⟩,
  ⟨("is_sheet", none), "is_sheet", "is_sheet", defArgs (top 24), defBody (top 24), defScope (top 24), [], []⟩,
  ⟨("want_sheet", none), "want_sheet", "want_sheet", defArgs (top 25), defBody (top 25), defScope (top 25), [], []⟩,
  ⟨("want_standing", none), "want_standing", "want_standing", defArgs (top 26), defBody (top 26), defScope (top 26), [], []⟩,
  ⟨("is_list", none), "is_list", "is_list", defArgs (top 3), defBody (top 3), defScope (top 3), [], []⟩,
  ⟨("are_tasks", none), "are_tasks", "are_tasks", defArgs (top 28), defBody (top 28), defScope (top 28), [], []⟩,
  ⟨("want_run", none), "want_run", "want_run", defArgs (top 29), defBody (top 29), defScope (top 29), [], []⟩,
  ⟨("behind_task", none), "behind_task", "behind_task", defArgs (top 31), defBody (top 31), defScope (top 31), [], []⟩,
  ⟨("can_do", none), "can_do", "can_do", defArgs (top 30), defBody (top 30), defScope (top 30), [], []⟩,
  ⟨("first_wrong", none), "first_wrong", "first_wrong", defArgs (top 37), defBody (top 37), defScope (top 37), [], []⟩,
  ⟨("run_flaw", none), "run_flaw", "run_flaw", defArgs (top 40), defBody (top 40), defScope (top 40), [], []⟩,
  ⟨("led", none), "led", "led", defArgs (top 32), defBody (top 32), defScope (top 32), [], []⟩,
  ⟨("standing_behind", none), "standing_behind", "standing_behind", defArgs (top 41), defBody (top 41), defScope (top 41), [], []⟩,
  ⟨("row_along", none), "row_along", "row_along", defArgs (top 33), defBody (top 33), defScope (top 33), [], []⟩,
  ⟨("row_of", none), "row_of", "row_of", defArgs (top 42), defBody (top 42), defScope (top 42), [], []⟩,
  ⟨("is_whole_run", none), "is_whole_run", "is_whole_run", defArgs (top 43), defBody (top 43), defScope (top 43), [], []⟩,
  ⟨("_law_run_right", none), "_law_run_right", "_law_run_right", defArgs (top 53), defBody (top 53), defScope (top 53), [], []⟩,
  ⟨("_law_lot", none), "_law_lot", "_law_lot", defArgs (top 48), defBody (top 48), defScope (top 48), [], []⟩,
  ⟨("_law_sheet", none), "_law_sheet", "_law_sheet", defArgs (top 49), defBody (top 49), defScope (top 49), [], []⟩,
  ⟨("_law_run", none), "_law_run", "_law_run", defArgs (top 54), defBody (top 54), defScope (top 54), [], []⟩,
  ⟨("can_be_done", none), "can_be_done", "can_be_done", defArgs (top 38), defBody (top 38), defScope (top 38), [], []⟩,
  ⟨("want_task", none), "want_task", "want_task", defArgs (top 27), defBody (top 27), defScope (top 27), [], []⟩,
  ⟨("behind", none), "behind", "behind", defArgs (top 39), defBody (top 39), defScope (top 39), [], []⟩,
  ⟨("_law_steps_right", none), "_law_steps_right", "_law_steps_right", defArgs (top 52), defBody (top 52), defScope (top 52), [], []⟩,
  ⟨("_law_right", none), "_law_right", "_law_right", defArgs (top 55), defBody (top 55), defScope (top 55), [], []⟩,
  ⟨("law", none), "law", "law", defArgs (top 56), defBody (top 56), defScope (top 56), [], []⟩]
def fa : List He.Fa := [.glo "_law_pot", .glo "_law_draw", .glo "_law_pick", .glo "_law_behind", .glo "_law_gone", .glo "is_tuple", .glo "is_integer", .glo "is_within", .glo "is_standing_of", .glo "are_rising", .glo "are_places", .glo "is_name", .glo "is_task_of", .glo "is_sheet", .glo "want_sheet", .glo "want_standing", .glo "is_list", .glo "are_tasks", .glo "want_run", .glo "behind_task", .glo "can_do", .glo "first_wrong", .glo "run_flaw", .glo "led", .glo "standing_behind", .glo "row_along", .glo "row_of", .glo "is_whole_run", .glo "_law_run_right", .glo "_law_lot", .glo "_law_sheet", .glo "_law_run", .glo "can_be_done", .glo "want_task", .glo "behind", .glo "_law_steps_right", .glo "_law_right", .glo "law", .free "abs", .free "all", .free "any", .free "bool", .free "divmod", .free "enumerate", .free "int", .free "isinstance", .free "len", .free "list", .free "max", .free "range", .free "repr", .free "sorted", .free "str", .free "sum", .free "tuple", .free "zip", .str "LETTERS" "abcdefghijklmnopqrstuvwxyz", .int "MOST_PLACES" 16, .int "MOST_RUN" 400, .int "MOST_SIGNS" 12, .int "MOST_TASKS" 24, .int "MOST_TOKENS" 9, .str "NOT" "not", .str "SIGNS" "abcdefghijklmnopqrstuvwxyz0123456789_", .str "SPILLS" "spills"]
theorem Gs.of {K : PySem.W.Frag} {h : Heap} {mg : Str → Option Value} (X : K.In h) (N : h.Ns mainGlobals mg) (c : He.SaysD fa fn K) (ct : tabB K tb = true) : Gs K mg :=
  ⟨c.def_ 0 rfl,
   He.glo_ok X N (c.fact 0 (f := .glo "_law_pot") rfl),
   c.def_ 1 rfl,
   He.glo_ok X N (c.fact 1 (f := .glo "_law_draw") rfl),
   c.def_ 2 rfl,
   He.glo_ok X N (c.fact 2 (f := .glo "_law_pick") rfl),
   c.def_ 3 rfl,
   He.glo_ok X N (c.fact 3 (f := .glo "_law_behind") rfl),
   c.def_ 4 rfl,
   He.glo_ok X N (c.fact 4 (f := .glo "_law_gone") rfl),
   c.def_ 5 rfl,
   He.glo_ok X N (c.fact 5 (f := .glo "is_tuple") rfl),
   c.def_ 6 rfl,
   He.glo_ok X N (c.fact 6 (f := .glo "is_integer") rfl),
   c.def_ 7 rfl,
   He.glo_ok X N (c.fact 7 (f := .glo "is_within") rfl),
   c.def_ 8 rfl,
   He.glo_ok X N (c.fact 8 (f := .glo "is_standing_of") rfl),
   c.def_ 9 rfl,
   He.glo_ok X N (c.fact 9 (f := .glo "are_rising") rfl),
   c.def_ 10 rfl,
   He.glo_ok X N (c.fact 10 (f := .glo "are_places") rfl),
   c.def_ 11 rfl,
   He.glo_ok X N (c.fact 11 (f := .glo "is_name") rfl),
   c.def_ 12 rfl,
   He.glo_ok X N (c.fact 12 (f := .glo "is_task_of") rfl),
   c.def_ 13 rfl,
   He.glo_ok X N (c.fact 13 (f := .glo "is_sheet") rfl),
   c.def_ 14 rfl,
   He.glo_ok X N (c.fact 14 (f := .glo "want_sheet") rfl),
   c.def_ 15 rfl,
   He.glo_ok X N (c.fact 15 (f := .glo "want_standing") rfl),
   c.def_ 16 rfl,
   He.glo_ok X N (c.fact 16 (f := .glo "is_list") rfl),
   c.def_ 17 rfl,
   He.glo_ok X N (c.fact 17 (f := .glo "are_tasks") rfl),
   c.def_ 18 rfl,
   He.glo_ok X N (c.fact 18 (f := .glo "want_run") rfl),
   c.def_ 19 rfl,
   He.glo_ok X N (c.fact 19 (f := .glo "behind_task") rfl),
   c.def_ 20 rfl,
   He.glo_ok X N (c.fact 20 (f := .glo "can_do") rfl),
   c.def_ 21 rfl,
   He.glo_ok X N (c.fact 21 (f := .glo "first_wrong") rfl),
   c.def_ 22 rfl,
   He.glo_ok X N (c.fact 22 (f := .glo "run_flaw") rfl),
   c.def_ 23 rfl,
   He.glo_ok X N (c.fact 23 (f := .glo "led") rfl),
   c.def_ 24 rfl,
   He.glo_ok X N (c.fact 24 (f := .glo "standing_behind") rfl),
   c.def_ 25 rfl,
   He.glo_ok X N (c.fact 25 (f := .glo "row_along") rfl),
   c.def_ 26 rfl,
   He.glo_ok X N (c.fact 26 (f := .glo "row_of") rfl),
   c.def_ 27 rfl,
   He.glo_ok X N (c.fact 27 (f := .glo "is_whole_run") rfl),
   c.def_ 28 rfl,
   He.glo_ok X N (c.fact 28 (f := .glo "_law_run_right") rfl),
   c.def_ 29 rfl,
   He.glo_ok X N (c.fact 29 (f := .glo "_law_lot") rfl),
   c.def_ 30 rfl,
   He.glo_ok X N (c.fact 30 (f := .glo "_law_sheet") rfl),
   c.def_ 31 rfl,
   He.glo_ok X N (c.fact 31 (f := .glo "_law_run") rfl),
   c.def_ 32 rfl,
   He.glo_ok X N (c.fact 32 (f := .glo "can_be_done") rfl),
   c.def_ 33 rfl,
   He.glo_ok X N (c.fact 33 (f := .glo "want_task") rfl),
   c.def_ 34 rfl,
   He.glo_ok X N (c.fact 34 (f := .glo "behind") rfl),
   c.def_ 35 rfl,
   He.glo_ok X N (c.fact 35 (f := .glo "_law_steps_right") rfl),
   c.def_ 36 rfl,
   He.glo_ok X N (c.fact 36 (f := .glo "_law_right") rfl),
   c.def_ 37 rfl,
   He.glo_ok X N (c.fact 37 (f := .glo "law") rfl),
   He.free_ok X N (c.fact 38 (f := .free "abs") rfl),
   He.free_ok X N (c.fact 39 (f := .free "all") rfl),
   He.free_ok X N (c.fact 40 (f := .free "any") rfl),
   He.free_ok X N (c.fact 41 (f := .free "bool") rfl),
   He.free_ok X N (c.fact 42 (f := .free "divmod") rfl),
   He.free_ok X N (c.fact 43 (f := .free "enumerate") rfl),
   He.free_ok X N (c.fact 44 (f := .free "int") rfl),
   He.free_ok X N (c.fact 45 (f := .free "isinstance") rfl),
   He.free_ok X N (c.fact 46 (f := .free "len") rfl),
   He.free_ok X N (c.fact 47 (f := .free "list") rfl),
   He.free_ok X N (c.fact 48 (f := .free "max") rfl),
   He.free_ok X N (c.fact 49 (f := .free "range") rfl),
   He.free_ok X N (c.fact 50 (f := .free "repr") rfl),
   He.free_ok X N (c.fact 51 (f := .free "sorted") rfl),
   He.free_ok X N (c.fact 52 (f := .free "str") rfl),
   He.free_ok X N (c.fact 53 (f := .free "sum") rfl),
   He.free_ok X N (c.fact 54 (f := .free "tuple") rfl),
   He.free_ok X N (c.fact 55 (f := .free "zip") rfl),
   He.str_ok X N (c.fact 56 (f := .str "LETTERS" "abcdefghijklmnopqrstuvwxyz") rfl),
   He.int_ok X N (c.fact 57 (f := .int "MOST_PLACES" 16) rfl),
   He.int_ok X N (c.fact 58 (f := .int "MOST_RUN" 400) rfl),
   He.int_ok X N (c.fact 59 (f := .int "MOST_SIGNS" 12) rfl),
   He.int_ok X N (c.fact 60 (f := .int "MOST_TASKS" 24) rfl),
   He.int_ok X N (c.fact 61 (f := .int "MOST_TOKENS" 9) rfl),
   He.str_ok X N (c.fact 62 (f := .str "NOT" "not") rfl),
   He.str_ok X N (c.fact 63 (f := .str "SIGNS" "abcdefghijklmnopqrstuvwxyz0123456789_") rfl),
   He.str_ok X N (c.fact 64 (f := .str "SPILLS" "spills") rfl)⟩
/-! #### _law_pot -/
abbrev s__law_pot : Stmt := top 45
abbrev N__law_pot : List Str := ["script", "k", "cell"]
theorem sc__law_pot : FnScope N__law_pot ["script", "k"] (defScope s__law_pot) := ⟨rfl, rfl, rfl, by decide +kernel, rfl, by decide +kernel, by decide +kernel⟩
def g__law_pot : MR := (rSeq (sSet 2 (fIf (fTv (fB gLt (fVx 1) (fU gLen (fVx 0)))) (fU gAbs (fB gIx (fVx 0) (fVx 1))) (fB gAdd (fB gAdd (fB gMul (fC (.int 1093)) (fVx 1)) (fC (.int 461))) (fB gMod (fU gInt (fU gSum (fL (fSlL (fVx 0) oNone (oSome (fC (.int 1))))))) (fC (.int 1000003)))))) (fLst (fCons (fB gMax2 (fC (.int 0)) (fB gSubI (fVx 2) (fB gPow (fC (.int 10)) (fC (.int 18))))) (fCons (fB gAdd (fB gMod (fU gInt (fB gAdd (fB gAdd (fB gMul (fB gMod (fU gInt (fVx 2)) (fC (.int 2147483549))) (fC (.int 41651))) (fB gMul (fC (.int 7573)) (fVx 1))) (fC (.int 83)))) (fC (.int 2147483563))) (fC (.int 1))) fNil))))
def m__law_pot : MFN := mOfR 3 g__law_pot
theorem ok__law_pot {P : Program} {w : World} {K : PySem.W.Frag} {mg : Str → Option Value} {base : Heap} (G : Gs K mg) : Fn P w K mg base 1 "_law_pot" ["script", "k"] (SPn K 2 m__law_pot) := by
  obtain ⟨fd, F⟩ := G.d__law_pot
  exact fn_mk F G.g__law_pot sc__law_pot (FunD.bindsN F fun _ _ _ _ _ _ us hl => match us, hl with | [_, _], _ => rfl) (kbind_of F fun _ _ _ _ _ _ us hl => match us, hl with | [_, _], _ => rfl) (fun vs H Q ⟨_, _, _, _, _, _, h, _⟩ => h) (fun cdv A outer s H vs Q hr hg h => have hu := hr.units; ⟨_, (pss_cons (ps_set (i := 2) sc__law_pot.nd rfl (by first | exact Or.inl rfl | exact Or.inr rfl) (pe_ifExp (pt_cmpR op_lt (pv 1) (pe_callB call_len rfl G.b_len boot_len (pa_cons (pv 0) pa_nil)) (nomark _)) (pe_callB call_abs rfl G.b_abs boot_abs (pa_cons (pe_ix ix_seq (pv 0) (pv 1) fun _ _ => rfl) pa_nil)) (pe_op op_addAll (pe_op op_addAll (pe_op op_mulAll pe_int (pv 1)) pe_int) (pe_op op_mod (pe_callTy call_int1 rfl G.b_int boot_int (pa_cons (pe_callB (cr_sum rfl) rfl G.b_sum boot_sum (pa_cons (pe_slice sl_list (pv 0) po_none (po_some pe_int)) pa_nil)) pa_nil)) pe_int)))) (pss_one (ps_ret (pe_lst (pa_cons (pe_callB (call_max2 rfl) rfl G.b_max boot_max (pa_cons pe_int (pa_cons (pe_op op_subAll (pv 2) (pe_op op_pow pe_int pe_int)) pa_nil))) (pa_cons (pe_op op_addAll (pe_op op_mod (pe_callTy call_int1 rfl G.b_int boot_int (pa_cons (pe_op op_addAll (pe_op op_addAll (pe_op op_mulAll (pe_op op_mod (pe_callTy call_int1 rfl G.b_int boot_int (pa_cons (pv 2) pa_nil)) pe_int) pe_int) (pe_op op_mulAll pe_int (pv 1))) pe_int) pa_nil)) pe_int) pe_int) pa_nil)))))), body_okR (g := g__law_pot) (evr_seq (evs_set (i := 2) (ev_if (evt_test (EvE.x (ev_op (sim_cmp _) (ev_varx 1) (EvE.x (ev_c1 sim_len (ev_varx 0)))))) (ev_c1 sim_abs (EvE.x (ev_op sim_ix (ev_varx 0) (ev_varx 1)))) (ev_op sim_add (EvE.x (ev_op sim_add (EvE.x (ev_op sim_mul (EvE.x (ev_int _)) (ev_varx 1))) (EvE.x (ev_int _)))) (EvE.x (ev_op sim_mod (EvE.x (ev_c1 sim_int (EvE.x (ev_c1 sim_sum (EvN.x (ev_slL (ev_varx 0) evo_none (evo_some (EvE.x (ev_int _))))))))) (EvE.x (ev_int _))))))) (evr_ret (ev_lst (eva_cons (ev_c2 sim_max2 (EvE.x (ev_int _)) (EvE.x (ev_op sim_sub (ev_varx 2) (EvE.x (ev_op sim_pow (EvE.x (ev_int _)) (EvE.x (ev_int _))))))) (eva_cons (ev_op sim_add (EvE.x (ev_op sim_mod (EvE.x (ev_c1 sim_int (EvE.x (ev_op sim_add (EvE.x (ev_op sim_add (EvE.x (ev_op sim_mul (EvE.x (ev_op sim_mod (EvE.x (ev_c1 sim_int (ev_varx 2))) (EvE.x (ev_int _)))) (EvE.x (ev_int _)))) (EvE.x (ev_op sim_mul (EvE.x (ev_int _)) (ev_varx 1))))) (EvE.x (ev_int _)))))) (EvE.x (ev_int _)))) (EvE.x (ev_int _))) eva_nil))))) h⟩)
/-! #### _law_draw -/
abbrev s__law_draw : Stmt := top 46
abbrev N__law_draw : List Str := ["pot", "size", "digit"]
theorem sc__law_draw : FnScope N__law_draw ["pot", "size"] (defScope s__law_draw) := ⟨rfl, rfl, rfl, by decide +kernel, rfl, by decide +kernel, by decide +kernel⟩
def g__law_draw : MS := (sSeq (sIf (fTv (fB gGt (fPot 0 0) (fC (.int 0)))) (sSeq (sPotN 0 0 2 (fB gDivmod (fPot 0 0) (fVx 1))) (sRet (fV 2))) sNil) (sSeq (sPot 0 1 (fB gMod (fU gInt (fB gAdd (fB gMul (fPot 0 1) (fC (.int 40692))) (fC (.int 7573)))) (fC (.int 2147483587)))) (sRet (fB gMod (fU gInt (fB gDiv (fB gMod (fU gInt (fB gMul (fPot 0 1) (fPot 0 1))) (fC (.int 2147483549))) (fC (.int 19)))) (fVx 1)))))
def m__law_draw : MF := mOf 3 g__law_draw
theorem ok__law_draw {P : Program} {w : World} {K : PySem.W.Frag} {mg : Str → Option Value} {base : Heap} (G : Gs K mg) : Fn P w K mg base 1 "_law_draw" ["pot", "size"] (SPd K 2 m__law_draw) := by
  obtain ⟨fd, F⟩ := G.d__law_draw
  exact fn_mk F G.g__law_draw sc__law_draw (FunD.bindsN F fun _ _ _ _ _ _ us hl => match us, hl with | [_, _], _ => rfl) (kbind_of F fun _ _ _ _ _ _ us hl => match us, hl with | [_, _], _ => rfl) (fun vs H Q ⟨_, _, _, _, _, _, h, _⟩ => h) (fun cdv A outer s H vs Q hr hg h => have hu := hr.units; ⟨_, (pss_cons (ps_if (pt_cmpR op_gt (pe_ix ix_seq (pv 0) pe_int fun _ _ => rfl) pe_int (nomark _)) (pss_cons (ps_asg (pe_callB call_divmod rfl G.b_divmod boot_divmod (pa_cons (pe_ix ix_seq (pv 0) pe_int fun _ _ => rfl) (pa_cons (pv 1) pa_nil))) (pg_tup rfl (pgs_cons (pg_sub (pv 0) pe_int set_list fun _ => rfl) (pgs_cons (pg_name (i := 2) sc__law_draw.nd rfl (by first | exact Or.inl rfl | exact Or.inr rfl)) pgs_nil)))) (pss_one (ps_ret (pv 2)))) pss_nil) (pss_cons (ps_asg (pe_op op_mod (pe_callTy call_int1 rfl G.b_int boot_int (pa_cons (pe_op op_addAll (pe_op op_mulAll (pe_ix ix_seq (pv 0) pe_int fun _ _ => rfl) pe_int) pe_int) pa_nil)) pe_int) (pg_sub (pv 0) pe_int set_list fun _ => rfl)) (pss_one (ps_ret (pe_op op_mod (pe_callTy call_int1 rfl G.b_int boot_int (pa_cons (pe_op op_fdiv (pe_op op_mod (pe_callTy call_int1 rfl G.b_int boot_int (pa_cons (pe_op op_mulAll (pe_ix ix_seq (pv 0) pe_int fun _ _ => rfl) (pe_ix ix_seq (pv 0) pe_int fun _ _ => rfl)) pa_nil)) pe_int) pe_int) pa_nil)) (pv 1)))))), body_ok (g := g__law_draw) (evs_seq (evs_if (evt_test (EvE.x (ev_op (sim_cmp _) (EvE.x (ev_pot (i := 0) (k := 0))) (EvE.x (ev_int _))))) (evs_seq (evs_potN (i := 0) (j := 2) (k := 0) (ev_c2 sim_divmod (EvE.x (ev_pot (i := 0) (k := 0))) (ev_varx 1))) (evs_ret (ev_var 2))) evs_nil) (evs_seq (evs_pot (i := 0) (k := 1) (ev_op sim_mod (EvE.x (ev_c1 sim_int (EvE.x (ev_op sim_add (EvE.x (ev_op sim_mul (EvE.x (ev_pot (i := 0) (k := 1))) (EvE.x (ev_int _)))) (EvE.x (ev_int _)))))) (EvE.x (ev_int _)))) (evs_ret (ev_op sim_mod (EvE.x (ev_c1 sim_int (EvE.x (ev_op sim_div (EvE.x (ev_op sim_mod (EvE.x (ev_c1 sim_int (EvE.x (ev_op sim_mul (EvE.x (ev_pot (i := 0) (k := 1))) (EvE.x (ev_pot (i := 0) (k := 1))))))) (EvE.x (ev_int _)))) (EvE.x (ev_int _)))))) (ev_varx 1))))) h⟩)
/-! #### _law_pick -/
abbrev s__law_pick : Stmt := top 47
abbrev N__law_pick : List Str := ["pot", "some"]
theorem sc__law_pick : FnScope N__law_pick ["pot", "some"] (defScope s__law_pick) := ⟨rfl, rfl, rfl, by decide +kernel, rfl, by decide +kernel, by decide +kernel⟩
def g__law_pick : MS := (sRet (fB gIx (fVx 1) (fCl 2 m__law_draw (aP 0 (aD (fU gLen (fVx 1)) aNil)))))
def m__law_pick : MF := mOf 2 g__law_pick
theorem ok__law_pick {P : Program} {w : World} {K : PySem.W.Frag} {mg : Str → Option Value} {base : Heap} (G : Gs K mg) : Fn P w K mg base 2 "_law_pick" ["pot", "some"] (SPd K 2 m__law_pick) := by
  obtain ⟨fd, F⟩ := G.d__law_pick
  exact fn_mk F G.g__law_pick sc__law_pick (FunD.bindsN F fun _ _ _ _ _ _ us hl => match us, hl with | [_, _], _ => rfl) (kbind_of F fun _ _ _ _ _ _ us hl => match us, hl with | [_, _], _ => rfl) (fun vs H Q ⟨_, _, _, _, _, _, h, _⟩ => h) (fun cdv A outer s H vs Q hr hg h => have hu := hr.units; ⟨_, (pss_one (ps_ret (pe_ix ix_seq (pv 1) (pe_fn ((ok__law_draw G).mono (by decide)) hr hg rfl (pa_cons (pv 0) (pa_cons (pe_callB call_len rfl G.b_len boot_len (pa_cons (pv 1) pa_nil)) pa_nil))) fun _ _ => rfl))), body_ok (g := g__law_pick) (evs_ret (ev_op sim_ix (ev_varx 1) (EvE.x (ev_cl (evar_p (i := 0) (evar_d (ev_c1 sim_len (ev_varx 1)) evar_nil)))))) h⟩)
/-! #### _law_behind -/
abbrev s__law_behind : Stmt := top 50
abbrev N__law_behind : List Str := ["sheet", "standing", "task", "name", "takes", "gives", "late", "place", "tokens"]
theorem sc__law_behind : FnScope N__law_behind ["sheet", "standing", "task"] (defScope s__law_behind) := ⟨rfl, rfl, rfl, by decide +kernel, rfl, by decide +kernel, by decide +kernel⟩
def g__law_behind : MS := (sSeq (sUnp (tTupG (tsCons (tName 3) (tsCons (tName 4) (tsCons (tName 5) tsNil))) 3) (fB gIx (fB gIx (fVx 0) (fC (.int 2))) (fVx 2))) (sSeq (sIf (fTv (fU gAny (fL (fLc (iA (fV 4)) [7] (tName 7) bYes (fB (gEq false) (fB gIx (fVx 1) (fVx 7)) (fC (.int 0))))))) (sRet (fC (.str "not"))) sNil) (sSeq (sSet 6 (fL (fLc (iE (fV 1)) [7, 8] (tTupG (tsCons (tName 7) (tsCons (tName 8) tsNil)) 2) bYes (fB gAdd (fB gSubI (fVx 8) (fU gInt (fB (gIn false) (fVx 7) (fVx 4)))) (fU gInt (fB (gIn false) (fVx 7) (fVx 5))))))) (sRet (fIf (fTv (fB gGt (fU gMaxL (fVx 6)) (fC (.int 9)))) (fC (.str "spills")) (fU gTuple (fVx 6)))))))
def m__law_behind : MF := mOf 9 g__law_behind
theorem ok__law_behind {P : Program} {w : World} {K : PySem.W.Frag} {mg : Str → Option Value} {base : Heap} (G : Gs K mg) : Fn P w K mg base 1 "_law_behind" ["sheet", "standing", "task"] (SPd K 3 m__law_behind) := by
  obtain ⟨fd, F⟩ := G.d__law_behind
  exact fn_mk F G.g__law_behind sc__law_behind (FunD.bindsN F fun _ _ _ _ _ _ us hl => match us, hl with | [_, _, _], _ => rfl) (kbind_of F fun _ _ _ _ _ _ us hl => match us, hl with | [_, _, _], _ => rfl) (fun vs H Q ⟨_, _, _, _, _, _, h, _⟩ => h) (fun cdv A outer s H vs Q hr hg h => have hu := hr.units; ⟨_, (pss_cons (ps_asg (pe_ix ix_seq (pe_ix ix_seq (pv 0) pe_int fun _ _ => rfl) (pv 2) fun _ _ => rfl) (pg_tup rfl (pgs_cons (pg_name (i := 3) sc__law_behind.nd rfl (by first | exact Or.inl rfl | exact Or.inr rfl)) (pgs_cons (pg_name (i := 4) sc__law_behind.nd rfl (by first | exact Or.inl rfl | exact Or.inr rfl)) (pgs_cons (pg_name (i := 5) sc__law_behind.nd rfl (by first | exact Or.inl rfl | exact Or.inr rfl)) pgs_nil))))) (pss_cons (ps_if (pt_val (pe_callB (cr_any rfl) rfl G.b_any boot_any (pa_cons (pe_lc (own := [("place", 7)]) rfl sc__law_behind.nd (pi_any (pv 4)) (show BlkOk N__law_behind (defScope s__law_behind) _ _ from blkOk_by (by decide +kernel)) (fun _ _ _ _ _ => (pg_name (i := 7) sc__law_behind.nd rfl (by first | exact Or.inl rfl | exact Or.inr rfl))) (fun _ _ _ _ _ => pts_nil) (fun _ _ _ _ _ => (pe_cmpR (op_eqY hu) (pe_ix ix_seq (pv 1) (pv 7) fun _ _ => rfl) pe_int (nomark _)))) pa_nil))) (pss_one (ps_ret pe_str)) pss_nil) (pss_cons (ps_setLc (own := [("place", 7), ("tokens", 8)]) (i := 6) rfl sc__law_behind.nd rfl rfl (sw_true rfl rfl rfl (by decide +kernel)) (pi_enumA rfl G.b_enumerate (pa_cons (pv 1) pa_nil)) (show BlkOk N__law_behind (defScope s__law_behind) _ _ from blkOk_by (by decide +kernel)) (fun _ _ _ _ _ => (pg_tup rfl (pgs_cons (pg_name (i := 7) sc__law_behind.nd rfl (by first | exact Or.inl rfl | exact Or.inr rfl)) (pgs_cons (pg_name (i := 8) sc__law_behind.nd rfl (by first | exact Or.inl rfl | exact Or.inr rfl)) pgs_nil)))) (fun _ _ _ _ _ => pts_nil) (fun _ _ _ _ _ => (pe_op op_addAll (pe_op op_subAll (pv 8) (pe_callTy call_int1 rfl G.b_int boot_int (pa_cons (pe_cmpR op_inAll (pv 7) (pv 4) (by rfl)) pa_nil))) (pe_callTy call_int1 rfl G.b_int boot_int (pa_cons (pe_cmpR op_inAll (pv 7) (pv 5) (by rfl)) pa_nil))))) (pss_one (ps_ret (pe_ifExp (pt_cmpR op_gt (pe_callB (cr_max rfl) rfl G.b_max boot_max (pa_cons (pv 6) pa_nil)) pe_int (nomark _)) pe_str (pe_callTy call_tuple_of rfl G.b_tuple boot_tuple (pa_cons (pv 6) pa_nil)))))))), body_ok (g := g__law_behind) (evs_seq (evs_unp (vs := [3, 4, 5]) (ev_op sim_ix (EvE.x (ev_op sim_ix (ev_varx 0) (EvE.x (ev_int _)))) (ev_varx 2)) (evg_tup (evgs_cons (evg_name (i := 3) (by decide)) (evgs_cons (evg_name (i := 4) (by decide)) (evgs_cons (evg_name (i := 5) (by decide)) evgs_nil))))) (evs_seq (evs_if (evt_val (EvE.x (ev_c1 sim_any (EvN.x (ev_lc (own := [7]) (evi_any (ev_var 4)) (evg_name (i := 7) (by decide)) evt_yes (ev_op (sim_eq false) (EvE.x (ev_op sim_ix (ev_varx 1) (ev_varx 7))) (EvE.x (ev_int _)))))))) (evs_ret (ev_str _)) evs_nil) (evs_seq (evs_set (i := 6) (EvN.e (ev_lc (own := [7, 8]) (evi_enum (ev_var 1)) (evg_tup (evgs_cons (evg_name (i := 7) (by decide)) (evgs_cons (evg_name (i := 8) (by decide)) evgs_nil))) evt_yes (ev_op sim_add (EvE.x (ev_op sim_sub (ev_varx 8) (EvE.x (ev_c1 sim_int (EvE.x (ev_op sim_in (ev_varx 7) (ev_varx 4))))))) (EvE.x (ev_c1 sim_int (EvE.x (ev_op sim_in (ev_varx 7) (ev_varx 5))))))))) (evs_ret (ev_if (evt_test (EvE.x (ev_op (sim_cmp _) (EvE.x (ev_c1 sim_maxL (ev_varx 6))) (EvE.x (ev_int _))))) (ev_str _) (ev_c1 sim_tuple (ev_varx 6))))))) h⟩)
/-! #### _law_gone -/
abbrev s__law_gone : Stmt := top 51
abbrev N__law_gone : List Str := ["sheet", "standing", "run", "here", "position", "task", "late"]
theorem sc__law_gone : FnScope N__law_gone ["sheet", "standing", "run"] (defScope s__law_gone) := ⟨rfl, rfl, rfl, by decide +kernel, rfl, by decide +kernel, by decide +kernel⟩
def g__law_gone : MS := (sSeq (sSet 3 (fV 1)) (sSeq (sFor (iE (fV 2)) (tTupG (tsCons (tName 4) (tsCons (tName 5) tsNil)) 2) (sSeq (sSet 6 (fCl 3 m__law_behind (aD (fV 0) (aD (fV 3) (aD (fV 5) aNil))))) (sSeq (sIf (fTv (fIsi "str" (fVx 6))) (sRet (fTup (fCons (fTup (fCons (fV 4) (fCons (fV 6) fNil))) (fCons (fC .none) fNil)))) sNil) (sSet 3 (fV 6))))) (sRet (fTup (fCons (fC .none) (fCons (fV 3) fNil))))))
def m__law_gone : MF := mOf 7 g__law_gone
theorem ok__law_gone {P : Program} {w : World} {K : PySem.W.Frag} {mg : Str → Option Value} {base : Heap} (G : Gs K mg) : Fn P w K mg base 2 "_law_gone" ["sheet", "standing", "run"] (SPd K 3 m__law_gone) := by
  obtain ⟨fd, F⟩ := G.d__law_gone
  exact fn_mk F G.g__law_gone sc__law_gone (FunD.bindsN F fun _ _ _ _ _ _ us hl => match us, hl with | [_, _, _], _ => rfl) (kbind_of F fun _ _ _ _ _ _ us hl => match us, hl with | [_, _, _], _ => rfl) (fun vs H Q ⟨_, _, _, _, _, _, h, _⟩ => h) (fun cdv A outer s H vs Q hr hg h => have hu := hr.units; ⟨_, (pss_cons (ps_set (i := 3) sc__law_gone.nd rfl (by first | exact Or.inl rfl | exact Or.inr rfl) (pv 1)) (pss_cons (ps_for PassesOwn.never rfl (pi_enumA rfl G.b_enumerate (pa_cons (pv 2) pa_nil)) (pg_tup rfl (pgs_cons (pg_name (i := 4) sc__law_gone.nd rfl (by first | exact Or.inl rfl | exact Or.inr rfl)) (pgs_cons (pg_name (i := 5) sc__law_gone.nd rfl (by first | exact Or.inl rfl | exact Or.inr rfl)) pgs_nil))) (pss_cons (ps_set (i := 6) sc__law_gone.nd rfl (by first | exact Or.inl rfl | exact Or.inr rfl) (pe_fn ((ok__law_behind G).mono (by decide)) hr hg rfl (pa_cons (pv 0) (pa_cons (pv 3) (pa_cons (pv 5) pa_nil))))) (pss_cons (ps_if (pt_val (pe_callB call_isi rfl G.b_isinstance boot_isinstance (pa_cons (pv 6) (pa_cons (pe_ty rfl G.b_str boot_str) pa_nil)))) (pss_one (ps_ret (pe_tup (pa_cons (pe_tup (pa_cons (pv 4) (pa_cons (pv 6) pa_nil))) (pa_cons pe_non pa_nil))))) pss_nil) (pss_one (ps_set (i := 3) sc__law_gone.nd rfl (by first | exact Or.inl rfl | exact Or.inr rfl) (pv 6)))))) (pss_one (ps_ret (pe_tup (pa_cons pe_non (pa_cons (pv 3) pa_nil))))))), body_ok (g := g__law_gone) (evs_seq (evs_set (i := 3) (ev_var 1)) (evs_seq (evs_for (vs := [4, 5]) (evi_enum (ev_var 2)) (evg_tup (evgs_cons (evg_name (i := 4) (by decide)) (evgs_cons (evg_name (i := 5) (by decide)) evgs_nil))) (evs_seq (evs_set (i := 6) (ev_cl (evar_d (ev_var 0) (evar_d (ev_var 3) (evar_d (ev_var 5) evar_nil))))) (evs_seq (evs_if (evt_val (EvE.x (ev_isi (ev_varx 6)))) (evs_ret (ev_tup (eva_cons (ev_tup (eva_cons (ev_var 4) (eva_cons (ev_var 6) eva_nil))) (eva_cons ev_non eva_nil)))) evs_nil) (evs_set (i := 3) (ev_var 6))))) (evs_ret (ev_tup (eva_cons ev_non (eva_cons (ev_var 3) eva_nil)))))) h⟩)
/-! #### is_tuple -/
abbrev s_is_tuple : Stmt := top 4
abbrev N_is_tuple : List Str := ["value", "many"]
theorem sc_is_tuple : FnScope N_is_tuple ["value", "many"] (defScope s_is_tuple) := ⟨rfl, rfl, rfl, by decide +kernel, rfl, by decide +kernel, by decide +kernel⟩
theorem ok_is_tuple {P : Program} {w : World} {K : PySem.W.Frag} {mg : Str → Option Value} {base : Heap} (G : Gs K mg) : Fn P w K mg base 1 "is_tuple" ["value", "many"] (SPd K 2 m_is_tuple) := by
  obtain ⟨fd, F⟩ := G.d_is_tuple
  exact fn_mk F G.g_is_tuple sc_is_tuple (FunD.bindsN F fun _ _ _ _ _ _ us hl => match us, hl with | [_, _], _ => rfl) (kbind_of F fun _ _ _ _ _ _ us hl => match us, hl with | [_, _], _ => rfl) (fun vs H Q ⟨_, _, _, _, _, _, h, _⟩ => h) (fun cdv A outer s H vs Q hr hg h => have hu := hr.units; ⟨_, (pss_one (ps_ret (pe_and (pe_callB call_isi rfl G.b_isinstance boot_isinstance (pa_cons (pv 0) (pa_cons (pe_ty rfl G.b_tuple boot_tuple) pa_nil))) (pe_one (pe_cmpR (op_eqY hu) (pe_callB call_len rfl G.b_len boot_len (pa_cons (pv 0) pa_nil)) (pv 1) (nomark _)))))), body_ok (g := g_is_tuple) (evs_ret (ev_andV (EvE.x (ev_isi (ev_varx 0))) (ev_op (sim_eq false) (EvE.x (ev_c1 sim_len (ev_varx 0))) (ev_varx 1)))) h⟩)
/-! #### is_integer -/
abbrev s_is_integer : Stmt := top 1
abbrev N_is_integer : List Str := ["value"]
theorem sc_is_integer : FnScope N_is_integer ["value"] (defScope s_is_integer) := ⟨rfl, rfl, rfl, by decide +kernel, rfl, by decide +kernel, by decide +kernel⟩
theorem ok_is_integer {P : Program} {w : World} {K : PySem.W.Frag} {mg : Str → Option Value} {base : Heap} (G : Gs K mg) : Fn P w K mg base 1 "is_integer" ["value"] (SPd K 1 m_is_integer) := by
  obtain ⟨fd, F⟩ := G.d_is_integer
  exact fn_mk F G.g_is_integer sc_is_integer (FunD.bindsN F fun _ _ _ _ _ _ us hl => match us, hl with | [_], _ => rfl) (kbind_of F fun _ _ _ _ _ _ us hl => match us, hl with | [_], _ => rfl) (fun vs H Q ⟨_, _, _, _, _, _, h, _⟩ => h) (fun cdv A outer s H vs Q hr hg h => have hu := hr.units; ⟨_, (pss_one (ps_ret (pe_and (pe_callB call_isi rfl G.b_isinstance boot_isinstance (pa_cons (pv 0) (pa_cons (pe_ty rfl G.b_int boot_int) pa_nil))) (pe_one (pe_not (pe_callB call_isi rfl G.b_isinstance boot_isinstance (pa_cons (pv 0) (pa_cons (pe_ty rfl G.b_bool boot_bool) pa_nil)))))))), body_ok (g := g_is_integer) (evs_ret (ev_andV (EvE.x (ev_isi (ev_varx 0))) (ev_notV (EvE.x (ev_isi (ev_varx 0)))))) h⟩)
/-! #### is_within -/
abbrev s_is_within : Stmt := top 2
abbrev N_is_within : List Str := ["value", "least", "most"]
theorem sc_is_within : FnScope N_is_within ["value", "least", "most"] (defScope s_is_within) := ⟨rfl, rfl, rfl, by decide +kernel, rfl, by decide +kernel, by decide +kernel⟩
theorem ok_is_within {P : Program} {w : World} {K : PySem.W.Frag} {mg : Str → Option Value} {base : Heap} (G : Gs K mg) : Fn P w K mg base 2 "is_within" ["value", "least", "most"] (SPd K 3 m_is_within) := by
  obtain ⟨fd, F⟩ := G.d_is_within
  exact fn_mk F G.g_is_within sc_is_within (FunD.bindsN F fun _ _ _ _ _ _ us hl => match us, hl with | [_, _, _], _ => rfl) (kbind_of F fun _ _ _ _ _ _ us hl => match us, hl with | [_, _, _], _ => rfl) (fun vs H Q ⟨_, _, _, _, _, _, h, _⟩ => h) (fun cdv A outer s H vs Q hr hg h => have hu := hr.units; ⟨_, (pss_one (ps_ret (pe_and (pe_fn ((ok_is_integer G).mono (by decide)) hr hg rfl (pa_cons (pv 0) pa_nil)) (pe_one (pe_chain op_le op_le (pv 1) (pv 0) (pv 2)))))), body_ok (g := g_is_within) (evs_ret (ev_andV (EvE.x (ev_cl (evar_d (ev_var 0) evar_nil))) (ev_chain (sim_cmp _) (sim_cmp _) (ev_varx 1) (ev_varx 0) (ev_varx 2)))) h⟩)
/-! #### is_standing_of -/
abbrev s_is_standing_of : Stmt := top 22
abbrev N_is_standing_of : List Str := ["value", "places", "one"]
theorem sc_is_standing_of : FnScope N_is_standing_of ["value", "places"] (defScope s_is_standing_of) := ⟨rfl, rfl, rfl, by decide +kernel, rfl, by decide +kernel, by decide +kernel⟩
theorem ok_is_standing_of {P : Program} {w : World} {K : PySem.W.Frag} {mg : Str → Option Value} {base : Heap} (G : Gs K mg) : Fn P w K mg base 3 "is_standing_of" ["value", "places"] (SPd K 2 m_is_standing_of) := by
  obtain ⟨fd, F⟩ := G.d_is_standing_of
  exact fn_mk F G.g_is_standing_of sc_is_standing_of (FunD.bindsN F fun _ _ _ _ _ _ us hl => match us, hl with | [_, _], _ => rfl) (kbind_of F fun _ _ _ _ _ _ us hl => match us, hl with | [_, _], _ => rfl) (fun vs H Q ⟨_, _, _, _, _, _, h, _⟩ => h) (fun cdv A outer s H vs Q hr hg h => have hu := hr.units; ⟨_, (pss_one (ps_ret (pe_and (pe_fn ((ok_is_tuple G).mono (by decide)) hr hg rfl (pa_cons (pv 0) (pa_cons (pv 1) pa_nil))) (pe_one (pe_callB (cr_all rfl) rfl G.b_all boot_all (pa_cons (pe_lc (own := [("one", 2)]) rfl sc_is_standing_of.nd (pi_any (pv 0)) (show BlkOk N_is_standing_of (defScope s_is_standing_of) _ _ from blkOk_by (by decide +kernel)) (fun _ _ _ _ _ => (pg_name (i := 2) sc_is_standing_of.nd rfl (by first | exact Or.inl rfl | exact Or.inr rfl))) (fun _ _ _ _ _ => pts_nil) (fun _ _ _ _ _ => (pe_fn ((ok_is_within G).mono (by decide)) hr hg rfl (pa_cons (pv 2) (pa_cons pe_int (pa_cons (pe_cint rfl G.c_MOST_TOKENS) pa_nil)))))) pa_nil)))))), body_ok (g := g_is_standing_of) (evs_ret (ev_andV (EvE.x (ev_cl (evar_d (ev_var 0) (evar_d (ev_var 1) evar_nil)))) (ev_c1 sim_all (EvN.x (ev_lc (own := [2]) (evi_any (ev_var 0)) (evg_name (i := 2) (by decide)) evt_yes (ev_cl (evar_d (ev_var 2) (evar_d (ev_int _) (evar_d (ev_int _) evar_nil))))))))) h⟩)
/-! #### are_rising -/
abbrev s_are_rising : Stmt := top 5
abbrev N_are_rising : List Str := ["values", "near", "far"]
theorem sc_are_rising : FnScope N_are_rising ["values"] (defScope s_are_rising) := ⟨rfl, rfl, rfl, by decide +kernel, rfl, by decide +kernel, by decide +kernel⟩
theorem ok_are_rising {P : Program} {w : World} {K : PySem.W.Frag} {mg : Str → Option Value} {base : Heap} (G : Gs K mg) : Fn P w K mg base 1 "are_rising" ["values"] (SPd K 1 m_are_rising) := by
  obtain ⟨fd, F⟩ := G.d_are_rising
  exact fn_mk F G.g_are_rising sc_are_rising (FunD.bindsN F fun _ _ _ _ _ _ us hl => match us, hl with | [_], _ => rfl) (kbind_of F fun _ _ _ _ _ _ us hl => match us, hl with | [_], _ => rfl) (fun vs H Q ⟨_, _, _, _, _, _, h, _⟩ => h) (fun cdv A outer s H vs Q hr hg h => have hu := hr.units; ⟨_, (pss_one (ps_ret (pe_callB (cr_all rfl) rfl G.b_all boot_all (pa_cons (pe_lc (own := [("near", 1), ("far", 2)]) rfl sc_are_rising.nd (RZ.pi_zipA rfl G.b_zip (pa_cons (pv 0) (pa_cons (pe_slice (SlR.or sl_tupA sl_str) (pv 0) (po_some pe_int) po_none) pa_nil))) (show BlkOk N_are_rising (defScope s_are_rising) _ _ from blkOk_by (by decide +kernel)) (fun _ _ _ _ _ => (pg_tup rfl (pgs_cons (pg_name (i := 1) sc_are_rising.nd rfl (by first | exact Or.inl rfl | exact Or.inr rfl)) (pgs_cons (pg_name (i := 2) sc_are_rising.nd rfl (by first | exact Or.inl rfl | exact Or.inr rfl)) pgs_nil)))) (fun _ _ _ _ _ => pts_nil) (fun _ _ _ _ _ => (pe_cmpR op_lt (pv 1) (pv 2) (nomark _)))) pa_nil)))), body_ok (g := g_are_rising) (evs_ret (ev_c1 sim_all (EvN.x (ev_lc (own := [1, 2]) (evi_zip (ev_var 0) (ev_slA (ev_varx 0) (evo_some (EvE.x (ev_int _))) evo_none)) (evg_tup (evgs_cons (evg_name (i := 1) (by decide)) (evgs_cons (evg_name (i := 2) (by decide)) evgs_nil))) evt_yes (ev_op (sim_cmp _) (ev_varx 1) (ev_varx 2)))))) h⟩)
/-! #### are_places -/
abbrev s_are_places : Stmt := top 21
abbrev N_are_places : List Str := ["value", "places", "one"]
theorem sc_are_places : FnScope N_are_places ["value", "places"] (defScope s_are_places) := ⟨rfl, rfl, rfl, by decide +kernel, rfl, by decide +kernel, by decide +kernel⟩
theorem ok_are_places {P : Program} {w : World} {K : PySem.W.Frag} {mg : Str → Option Value} {base : Heap} (G : Gs K mg) : Fn P w K mg base 3 "are_places" ["value", "places"] (SPd K 2 m_are_places) := by
  obtain ⟨fd, F⟩ := G.d_are_places
  exact fn_mk F G.g_are_places sc_are_places (FunD.bindsN F fun _ _ _ _ _ _ us hl => match us, hl with | [_, _], _ => rfl) (kbind_of F fun _ _ _ _ _ _ us hl => match us, hl with | [_, _], _ => rfl) (fun vs H Q ⟨_, _, _, _, _, _, h, _⟩ => h) (fun cdv A outer s H vs Q hr hg h => have hu := hr.units; ⟨_, (pss_one (ps_ret (pe_and (pe_callB call_isi rfl G.b_isinstance boot_isinstance (pa_cons (pv 0) (pa_cons (pe_ty rfl G.b_tuple boot_tuple) pa_nil))) (pe_and (pe_callB (cr_all rfl) rfl G.b_all boot_all (pa_cons (pe_lc (own := [("one", 2)]) rfl sc_are_places.nd (pi_any (pv 0)) (show BlkOk N_are_places (defScope s_are_places) _ _ from blkOk_by (by decide +kernel)) (fun _ _ _ _ _ => (pg_name (i := 2) sc_are_places.nd rfl (by first | exact Or.inl rfl | exact Or.inr rfl))) (fun _ _ _ _ _ => pts_nil) (fun _ _ _ _ _ => (pe_fn ((ok_is_within G).mono (by decide)) hr hg rfl (pa_cons (pv 2) (pa_cons pe_int (pa_cons (pe_op op_subAll (pv 1) pe_int) pa_nil)))))) pa_nil)) (pe_one (pe_fn ((ok_are_rising G).mono (by decide)) hr hg rfl (pa_cons (pv 0) pa_nil))))))), body_ok (g := g_are_places) (evs_ret (ev_andV (EvE.x (ev_isi (ev_varx 0))) (ev_andV (EvE.x (ev_c1 sim_all (EvN.x (ev_lc (own := [2]) (evi_any (ev_var 0)) (evg_name (i := 2) (by decide)) evt_yes (ev_cl (evar_d (ev_var 2) (evar_d (ev_int _) (evar_d (ev_op sim_sub (ev_varx 1) (EvE.x (ev_int _))) evar_nil)))))))) (ev_cl (evar_d (ev_var 0) evar_nil))))) h⟩)
/-! #### is_name -/
abbrev s_is_name : Stmt := top 20
abbrev N_is_name : List Str := ["value", "sign"]
theorem sc_is_name : FnScope N_is_name ["value"] (defScope s_is_name) := ⟨rfl, rfl, rfl, by decide +kernel, rfl, by decide +kernel, by decide +kernel⟩
theorem ok_is_name {P : Program} {w : World} {K : PySem.W.Frag} {mg : Str → Option Value} {base : Heap} (G : Gs K mg) : Fn P w K mg base 1 "is_name" ["value"] (SPd K 1 m_is_name) := by
  obtain ⟨fd, F⟩ := G.d_is_name
  exact fn_mk F G.g_is_name sc_is_name (FunD.bindsN F fun _ _ _ _ _ _ us hl => match us, hl with | [_], _ => rfl) (kbind_of F fun _ _ _ _ _ _ us hl => match us, hl with | [_], _ => rfl) (fun vs H Q ⟨_, _, _, _, _, _, h, _⟩ => h) (fun cdv A outer s H vs Q hr hg h => have hu := hr.units; ⟨_, (pss_cons (ps_if (PW.pt (pw_or (pt_not (pt_val (pe_callB call_isi rfl G.b_isinstance boot_isinstance (pa_cons (pv 0) (pa_cons (pe_ty rfl G.b_str boot_str) pa_nil))))) (pw_or (pt_not (pt_chain op_le op_le pe_int (pe_callB call_len rfl G.b_len boot_len (pa_cons (pv 0) pa_nil)) (pe_cint rfl G.c_MOST_SIGNS))) (pw_or1 (pt_cmpR op_notInAll (pe_ix ix_seq (pv 0) pe_int fun _ _ => rfl) (pe_cstr rfl G.c_LETTERS) (by rfl)))))) (pss_one (ps_ret pe_bl)) pss_nil) (pss_one (ps_ret (pe_callB (cr_all rfl) rfl G.b_all boot_all (pa_cons (pe_lc (own := [("sign", 1)]) rfl sc_is_name.nd (pi_str (pv 0)) (show BlkOk N_is_name (defScope s_is_name) _ _ from blkOk_by (by decide +kernel)) (fun _ _ _ _ _ => (pg_name (i := 1) sc_is_name.nd rfl (by first | exact Or.inl rfl | exact Or.inr rfl))) (fun _ _ _ _ _ => pts_nil) (fun _ _ _ _ _ => (pe_cmpR op_inAll (pv 1) (pe_cstr rfl G.c_SIGNS) (by rfl)))) pa_nil))))), body_ok (g := g_is_name) (evs_seq (evs_if (evt_or (evt_not (evt_val (EvE.x (ev_isi (ev_varx 0))))) (evt_or (evt_not (evt_test (EvE.x (ev_chain (sim_cmp _) (sim_cmp _) (EvE.x (ev_int _)) (EvE.x (ev_c1 sim_len (ev_varx 0))) (EvE.x (ev_int _)))))) (evt_test (EvE.x (ev_op sim_notIn (EvE.x (ev_op sim_ix (ev_varx 0) (EvE.x (ev_int _)))) (EvE.x (ev_str _))))))) (evs_ret (ev_bl _)) evs_nil) (evs_ret (ev_c1 sim_all (EvN.x (ev_lc (own := [1]) (evi_str (ev_varx 0)) (evg_name (i := 1) (by decide)) evt_yes (ev_op sim_in (ev_varx 1) (EvE.x (ev_str _)))))))) h⟩)
/-! #### is_task_of -/
abbrev s_is_task_of : Stmt := top 23
abbrev N_is_task_of : List Str := ["value", "places"]
theorem sc_is_task_of : FnScope N_is_task_of ["value", "places"] (defScope s_is_task_of) := ⟨rfl, rfl, rfl, by decide +kernel, rfl, by decide +kernel, by decide +kernel⟩
theorem ok_is_task_of {P : Program} {w : World} {K : PySem.W.Frag} {mg : Str → Option Value} {base : Heap} (G : Gs K mg) : Fn P w K mg base 4 "is_task_of" ["value", "places"] (SPd K 2 m_is_task_of) := by
  obtain ⟨fd, F⟩ := G.d_is_task_of
  exact fn_mk F G.g_is_task_of sc_is_task_of (FunD.bindsN F fun _ _ _ _ _ _ us hl => match us, hl with | [_, _], _ => rfl) (kbind_of F fun _ _ _ _ _ _ us hl => match us, hl with | [_, _], _ => rfl) (fun vs H Q ⟨_, _, _, _, _, _, h, _⟩ => h) (fun cdv A outer s H vs Q hr hg h => have hu := hr.units; ⟨_, (pss_cons (ps_if (PW.pt (pw_or (pt_not (pt_val (pe_fn ((ok_is_tuple G).mono (by decide)) hr hg rfl (pa_cons (pv 0) (pa_cons pe_int pa_nil))))) (pw_or (pt_not (pt_val (pe_callB call_isi rfl G.b_isinstance boot_isinstance (pa_cons (pe_ix ix_seq (pv 0) pe_int fun _ _ => rfl) (pa_cons (pe_ty rfl G.b_str boot_str) pa_nil))))) (pw_or1 (pt_not (PW.pt (pw_or (pt_cmpR (op_eqY hu) (pe_ix ix_seq (pv 0) pe_int fun _ _ => rfl) pe_str (nomark _)) (pw_or1 (pt_val (pe_fn ((ok_is_name G).mono (by decide)) hr hg rfl (pa_cons (pe_ix ix_seq (pv 0) pe_int fun _ _ => rfl) pa_nil))))))))))) (pss_one (ps_ret pe_bl)) pss_nil) (pss_one (ps_ret (pe_and (pe_fn ((ok_are_places G).mono (by decide)) hr hg rfl (pa_cons (pe_ix ix_seq (pv 0) pe_int fun _ _ => rfl) (pa_cons (pv 1) pa_nil))) (pe_and (pe_cmpR (op_neY hu) (pe_ix ix_seq (pv 0) pe_int fun _ _ => rfl) (pe_tup pa_nil) (nomark _)) (pe_one (pe_fn ((ok_are_places G).mono (by decide)) hr hg rfl (pa_cons (pe_ix ix_seq (pv 0) pe_int fun _ _ => rfl) (pa_cons (pv 1) pa_nil))))))))), body_ok (g := g_is_task_of) (evs_seq (evs_if (evt_or (evt_not (evt_val (EvE.x (ev_cl (evar_d (ev_var 0) (evar_d (ev_int _) evar_nil)))))) (evt_or (evt_not (evt_val (EvE.x (ev_isi (EvE.x (ev_op sim_ix (ev_varx 0) (EvE.x (ev_int _)))))))) (evt_not (evt_or (evt_test (EvE.x (ev_op (sim_eq false) (EvE.x (ev_op sim_ix (ev_varx 0) (EvE.x (ev_int _)))) (EvE.x (ev_str _))))) (evt_val (EvE.x (ev_cl (evar_d (ev_op sim_ix (ev_varx 0) (EvE.x (ev_int _))) evar_nil)))))))) (evs_ret (ev_bl _)) evs_nil) (evs_ret (ev_andV (EvE.x (ev_cl (evar_d (ev_op sim_ix (ev_varx 0) (EvE.x (ev_int _))) (evar_d (ev_var 1) evar_nil)))) (ev_andV (EvE.x (ev_op (sim_eq true) (EvE.x (ev_op sim_ix (ev_varx 0) (EvE.x (ev_int _)))) (EvE.x (ev_tup eva_nil)))) (ev_cl (evar_d (ev_op sim_ix (ev_varx 0) (EvE.x (ev_int _))) (evar_d (ev_var 1) evar_nil))))))) h⟩)
/-! #### is_sheet -/
abbrev s_is_sheet : Stmt := top 24
abbrev N_is_sheet : List Str := ["value", "one"]
theorem sc_is_sheet : FnScope N_is_sheet ["value"] (defScope s_is_sheet) := ⟨rfl, rfl, rfl, by decide +kernel, rfl, by decide +kernel, by decide +kernel⟩
theorem ok_is_sheet {P : Program} {w : World} {K : PySem.W.Frag} {mg : Str → Option Value} {base : Heap} (G : Gs K mg) : Fn P w K mg base 5 "is_sheet" ["value"] (SPd K 1 m_is_sheet) := by
  obtain ⟨fd, F⟩ := G.d_is_sheet
  exact fn_mk F G.g_is_sheet sc_is_sheet (FunD.bindsN F fun _ _ _ _ _ _ us hl => match us, hl with | [_], _ => rfl) (kbind_of F fun _ _ _ _ _ _ us hl => match us, hl with | [_], _ => rfl) (fun vs H Q ⟨_, _, _, _, _, _, h, _⟩ => h) (fun cdv A outer s H vs Q hr hg h => have hu := hr.units; ⟨_, (pss_cons (ps_if (PW.pt (pw_or (pt_not (pt_val (pe_fn ((ok_is_tuple G).mono (by decide)) hr hg rfl (pa_cons (pv 0) (pa_cons pe_int pa_nil))))) (pw_or (pt_not (pt_val (pe_callB call_isi rfl G.b_isinstance boot_isinstance (pa_cons (pe_ix ix_seq (pv 0) pe_int fun _ _ => rfl) (pa_cons (pe_ty rfl G.b_str boot_str) pa_nil))))) (pw_or1 (pt_cmpR (op_neY hu) (pe_ix ix_seq (pv 0) pe_int fun _ _ => rfl) pe_str (nomark _)))))) (pss_one (ps_ret pe_bl)) pss_nil) (pss_cons (ps_if (PW.pt (pw_or (pt_not (pt_val (pe_fn ((ok_is_within G).mono (by decide)) hr hg rfl (pa_cons (pe_ix ix_seq (pv 0) pe_int fun _ _ => rfl) (pa_cons pe_int (pa_cons (pe_cint rfl G.c_MOST_PLACES) pa_nil)))))) (pw_or1 (pt_not (pt_val (pe_callB call_isi rfl G.b_isinstance boot_isinstance (pa_cons (pe_ix ix_seq (pv 0) pe_int fun _ _ => rfl) (pa_cons (pe_ty rfl G.b_tuple boot_tuple) pa_nil)))))))) (pss_one (ps_ret pe_bl)) pss_nil) (pss_cons (ps_if (pt_not (pt_chain op_le op_le pe_int (pe_callB call_len rfl G.b_len boot_len (pa_cons (pe_ix ix_seq (pv 0) pe_int fun _ _ => rfl) pa_nil)) (pe_cint rfl G.c_MOST_TASKS))) (pss_one (ps_ret pe_bl)) pss_nil) (pss_cons (ps_if (pt_not (pt_val (pe_callB (cr_all rfl) rfl G.b_all boot_all (pa_cons (pe_lc (own := [("one", 1)]) rfl sc_is_sheet.nd (pi_any (pe_ix ix_seq (pv 0) pe_int fun _ _ => rfl)) (show BlkOk N_is_sheet (defScope s_is_sheet) _ _ from blkOk_by (by decide +kernel)) (fun _ _ _ _ _ => (pg_name (i := 1) sc_is_sheet.nd rfl (by first | exact Or.inl rfl | exact Or.inr rfl))) (fun _ _ _ _ _ => pts_nil) (fun _ _ _ _ _ => (pe_fn ((ok_is_task_of G).mono (by decide)) hr hg rfl (pa_cons (pv 1) (pa_cons (pe_ix ix_seq (pv 0) pe_int fun _ _ => rfl) pa_nil))))) pa_nil)))) (pss_one (ps_ret pe_bl)) pss_nil) (pss_one (ps_ret (pe_and (pe_fn ((ok_is_standing_of G).mono (by decide)) hr hg rfl (pa_cons (pe_ix ix_seq (pv 0) pe_int fun _ _ => rfl) (pa_cons (pe_ix ix_seq (pv 0) pe_int fun _ _ => rfl) pa_nil))) (pe_one (pe_fn ((ok_is_standing_of G).mono (by decide)) hr hg rfl (pa_cons (pe_ix ix_seq (pv 0) pe_int fun _ _ => rfl) (pa_cons (pe_ix ix_seq (pv 0) pe_int fun _ _ => rfl) pa_nil))))))))))), body_ok (g := g_is_sheet) (evs_seq (evs_if (evt_or (evt_not (evt_val (EvE.x (ev_cl (evar_d (ev_var 0) (evar_d (ev_int _) evar_nil)))))) (evt_or (evt_not (evt_val (EvE.x (ev_isi (EvE.x (ev_op sim_ix (ev_varx 0) (EvE.x (ev_int _)))))))) (evt_test (EvE.x (ev_op (sim_eq true) (EvE.x (ev_op sim_ix (ev_varx 0) (EvE.x (ev_int _)))) (EvE.x (ev_str _))))))) (evs_ret (ev_bl _)) evs_nil) (evs_seq (evs_if (evt_or (evt_not (evt_val (EvE.x (ev_cl (evar_d (ev_op sim_ix (ev_varx 0) (EvE.x (ev_int _))) (evar_d (ev_int _) (evar_d (ev_int _) evar_nil))))))) (evt_not (evt_val (EvE.x (ev_isi (EvE.x (ev_op sim_ix (ev_varx 0) (EvE.x (ev_int _))))))))) (evs_ret (ev_bl _)) evs_nil) (evs_seq (evs_if (evt_not (evt_test (EvE.x (ev_chain (sim_cmp _) (sim_cmp _) (EvE.x (ev_int _)) (EvE.x (ev_c1 sim_len (EvE.x (ev_op sim_ix (ev_varx 0) (EvE.x (ev_int _)))))) (EvE.x (ev_int _)))))) (evs_ret (ev_bl _)) evs_nil) (evs_seq (evs_if (evt_not (evt_val (EvE.x (ev_c1 sim_all (EvN.x (ev_lc (own := [1]) (evi_any (ev_op sim_ix (ev_varx 0) (EvE.x (ev_int _)))) (evg_name (i := 1) (by decide)) evt_yes (ev_cl (evar_d (ev_var 1) (evar_d (ev_op sim_ix (ev_varx 0) (EvE.x (ev_int _))) evar_nil))))))))) (evs_ret (ev_bl _)) evs_nil) (evs_ret (ev_andV (EvE.x (ev_cl (evar_d (ev_op sim_ix (ev_varx 0) (EvE.x (ev_int _))) (evar_d (ev_op sim_ix (ev_varx 0) (EvE.x (ev_int _))) evar_nil)))) (ev_cl (evar_d (ev_op sim_ix (ev_varx 0) (EvE.x (ev_int _))) (evar_d (ev_op sim_ix (ev_varx 0) (EvE.x (ev_int _))) evar_nil))))))))) h⟩)
/-! #### want_sheet -/
abbrev s_want_sheet : Stmt := top 25
abbrev N_want_sheet : List Str := ["sheet"]
theorem sc_want_sheet : FnScope N_want_sheet ["sheet"] (defScope s_want_sheet) := ⟨rfl, rfl, rfl, by decide +kernel, rfl, by decide +kernel, by decide +kernel⟩
theorem ok_want_sheet {P : Program} {w : World} {K : PySem.W.Frag} {mg : Str → Option Value} {base : Heap} (G : Gs K mg) : Fn P w K mg base 6 "want_sheet" ["sheet"] (SPd K 1 m_want_sheet) := by
  obtain ⟨fd, F⟩ := G.d_want_sheet
  exact fn_mk F G.g_want_sheet sc_want_sheet (FunD.bindsN F fun _ _ _ _ _ _ us hl => match us, hl with | [_], _ => rfl) (kbind_of F fun _ _ _ _ _ _ us hl => match us, hl with | [_], _ => rfl) (fun vs H Q ⟨_, _, _, _, _, _, h, _⟩ => h) (fun cdv A outer s H vs Q hr hg h => have hu := hr.units; ⟨_, (pss_one (ps_if (pt_not (pt_val (pe_fn ((ok_is_sheet G).mono (by decide)) hr hg rfl (pa_cons (pv 0) pa_nil)))) (pss_one ps_never) pss_nil)), body_ok (g := g_want_sheet) (evs_if (evt_not (evt_val (EvE.x (ev_cl (evar_d (ev_var 0) evar_nil))))) evs_never evs_nil) h⟩)
/-! #### want_standing -/
abbrev s_want_standing : Stmt := top 26
abbrev N_want_standing : List Str := ["sheet", "standing"]
theorem sc_want_standing : FnScope N_want_standing ["sheet", "standing"] (defScope s_want_standing) := ⟨rfl, rfl, rfl, by decide +kernel, rfl, by decide +kernel, by decide +kernel⟩
theorem ok_want_standing {P : Program} {w : World} {K : PySem.W.Frag} {mg : Str → Option Value} {base : Heap} (G : Gs K mg) : Fn P w K mg base 4 "want_standing" ["sheet", "standing"] (SPd K 2 m_want_standing) := by
  obtain ⟨fd, F⟩ := G.d_want_standing
  exact fn_mk F G.g_want_standing sc_want_standing (FunD.bindsN F fun _ _ _ _ _ _ us hl => match us, hl with | [_, _], _ => rfl) (kbind_of F fun _ _ _ _ _ _ us hl => match us, hl with | [_, _], _ => rfl) (fun vs H Q ⟨_, _, _, _, _, _, h, _⟩ => h) (fun cdv A outer s H vs Q hr hg h => have hu := hr.units; ⟨_, (pss_one (ps_if (pt_not (pt_val (pe_fn ((ok_is_standing_of G).mono (by decide)) hr hg rfl (pa_cons (pv 1) (pa_cons (pe_ix ix_seq (pv 0) pe_int fun _ _ => rfl) pa_nil))))) (pss_one ps_never) pss_nil)), body_ok (g := g_want_standing) (evs_if (evt_not (evt_val (EvE.x (ev_cl (evar_d (ev_var 1) (evar_d (ev_op sim_ix (ev_varx 0) (EvE.x (ev_int _))) evar_nil)))))) evs_never evs_nil) h⟩)
/-! #### is_list -/
abbrev s_is_list : Stmt := top 3
abbrev N_is_list : List Str := ["value"]
theorem sc_is_list : FnScope N_is_list ["value"] (defScope s_is_list) := ⟨rfl, rfl, rfl, by decide +kernel, rfl, by decide +kernel, by decide +kernel⟩
theorem ok_is_list {P : Program} {w : World} {K : PySem.W.Frag} {mg : Str → Option Value} {base : Heap} (G : Gs K mg) : Fn P w K mg base 1 "is_list" ["value"] (SPd K 1 m_is_list) := by
  obtain ⟨fd, F⟩ := G.d_is_list
  exact fn_mk F G.g_is_list sc_is_list (FunD.bindsN F fun _ _ _ _ _ _ us hl => match us, hl with | [_], _ => rfl) (kbind_of F fun _ _ _ _ _ _ us hl => match us, hl with | [_], _ => rfl) (fun vs H Q ⟨_, _, _, _, _, _, h, _⟩ => h) (fun cdv A outer s H vs Q hr hg h => have hu := hr.units; ⟨_, (pss_one (ps_ret (pe_callB call_isiT rfl G.b_isinstance boot_isinstance (pa_cons (pv 0) (pa_cons (pe_tup (pa_cons (pe_ty rfl G.b_list boot_list) (pa_cons (pe_ty rfl G.b_tuple boot_tuple) pa_nil))) pa_nil))))), body_ok (g := g_is_list) (evs_ret (ev_isi2 (ev_varx 0))) h⟩)
/-! #### are_tasks -/
abbrev s_are_tasks : Stmt := top 28
abbrev N_are_tasks : List Str := ["sheet", "value", "most", "one"]
theorem sc_are_tasks : FnScope N_are_tasks ["sheet", "value", "most"] (defScope s_are_tasks) := ⟨rfl, rfl, rfl, by decide +kernel, rfl, by decide +kernel, by decide +kernel⟩
theorem ok_are_tasks {P : Program} {w : World} {K : PySem.W.Frag} {mg : Str → Option Value} {base : Heap} (G : Gs K mg) : Fn P w K mg base 3 "are_tasks" ["sheet", "value", "most"] (SPd K 3 m_are_tasks) := by
  obtain ⟨fd, F⟩ := G.d_are_tasks
  exact fn_mk F G.g_are_tasks sc_are_tasks (FunD.bindsN F fun _ _ _ _ _ _ us hl => match us, hl with | [_, _, _], _ => rfl) (kbind_of F fun _ _ _ _ _ _ us hl => match us, hl with | [_, _, _], _ => rfl) (fun vs H Q ⟨_, _, _, _, _, _, h, _⟩ => h) (fun cdv A outer s H vs Q hr hg h => have hu := hr.units; ⟨_, (pss_one (ps_ret (pe_and (pe_fn ((ok_is_list G).mono (by decide)) hr hg rfl (pa_cons (pv 1) pa_nil)) (pe_and (pe_cmpR op_le (pe_callB call_len rfl G.b_len boot_len (pa_cons (pv 1) pa_nil)) (pv 2) (nomark _)) (pe_one (pe_callB (cr_all rfl) rfl G.b_all boot_all (pa_cons (pe_lc (own := [("one", 3)]) rfl sc_are_tasks.nd (pi_any (pv 1)) (show BlkOk N_are_tasks (defScope s_are_tasks) _ _ from blkOk_by (by decide +kernel)) (fun _ _ _ _ _ => (pg_name (i := 3) sc_are_tasks.nd rfl (by first | exact Or.inl rfl | exact Or.inr rfl))) (fun _ _ _ _ _ => pts_nil) (fun _ _ _ _ _ => (pe_fn ((ok_is_within G).mono (by decide)) hr hg rfl (pa_cons (pv 3) (pa_cons pe_int (pa_cons (pe_op op_subAll (pe_callB call_len rfl G.b_len boot_len (pa_cons (pe_ix ix_seq (pv 0) pe_int fun _ _ => rfl) pa_nil)) pe_int) pa_nil)))))) pa_nil))))))), body_ok (g := g_are_tasks) (evs_ret (ev_andV (EvE.x (ev_cl (evar_d (ev_var 1) evar_nil))) (ev_andV (EvE.x (ev_op (sim_cmp _) (EvE.x (ev_c1 sim_len (ev_varx 1))) (ev_varx 2))) (ev_c1 sim_all (EvN.x (ev_lc (own := [3]) (evi_any (ev_var 1)) (evg_name (i := 3) (by decide)) evt_yes (ev_cl (evar_d (ev_var 3) (evar_d (ev_int _) (evar_d (ev_op sim_sub (EvE.x (ev_c1 sim_len (EvE.x (ev_op sim_ix (ev_varx 0) (EvE.x (ev_int _)))))) (EvE.x (ev_int _))) evar_nil)))))))))) h⟩)
/-! #### want_run -/
abbrev s_want_run : Stmt := top 29
abbrev N_want_run : List Str := ["sheet", "run"]
theorem sc_want_run : FnScope N_want_run ["sheet", "run"] (defScope s_want_run) := ⟨rfl, rfl, rfl, by decide +kernel, rfl, by decide +kernel, by decide +kernel⟩
theorem ok_want_run {P : Program} {w : World} {K : PySem.W.Frag} {mg : Str → Option Value} {base : Heap} (G : Gs K mg) : Fn P w K mg base 4 "want_run" ["sheet", "run"] (SPd K 2 m_want_run) := by
  obtain ⟨fd, F⟩ := G.d_want_run
  exact fn_mk F G.g_want_run sc_want_run (FunD.bindsN F fun _ _ _ _ _ _ us hl => match us, hl with | [_, _], _ => rfl) (kbind_of F fun _ _ _ _ _ _ us hl => match us, hl with | [_, _], _ => rfl) (fun vs H Q ⟨_, _, _, _, _, _, h, _⟩ => h) (fun cdv A outer s H vs Q hr hg h => have hu := hr.units; ⟨_, (pss_one (ps_if (pt_not (pt_val (pe_fn ((ok_are_tasks G).mono (by decide)) hr hg rfl (pa_cons (pv 0) (pa_cons (pv 1) (pa_cons (pe_cint rfl G.c_MOST_RUN) pa_nil)))))) (pss_one ps_never) pss_nil)), body_ok (g := g_want_run) (evs_if (evt_not (evt_val (EvE.x (ev_cl (evar_d (ev_var 0) (evar_d (ev_var 1) (evar_d (ev_int _) evar_nil))))))) evs_never evs_nil) h⟩)
/-! #### behind_task -/
abbrev s_behind_task : Stmt := top 31
abbrev N_behind_task : List Str := ["sheet", "standing", "task", "late", "place"]
theorem sc_behind_task : FnScope N_behind_task ["sheet", "standing", "task"] (defScope s_behind_task) := ⟨rfl, rfl, rfl, by decide +kernel, rfl, by decide +kernel, by decide +kernel⟩
theorem ok_behind_task {P : Program} {w : World} {K : PySem.W.Frag} {mg : Str → Option Value} {base : Heap} (G : Gs K mg) : Fn P w K mg base 1 "behind_task" ["sheet", "standing", "task"] (SPd K 3 m_behind_task) := by
  obtain ⟨fd, F⟩ := G.d_behind_task
  exact fn_mk F G.g_behind_task sc_behind_task (FunD.bindsN F fun _ _ _ _ _ _ us hl => match us, hl with | [_, _, _], _ => rfl) (kbind_of F fun _ _ _ _ _ _ us hl => match us, hl with | [_, _, _], _ => rfl) (fun vs H Q ⟨_, _, _, _, _, _, h, _⟩ => h) (fun cdv A outer s H vs Q hr hg h => have hu := hr.units; ⟨_, (pss_cons (ps_set (i := 3) sc_behind_task.nd rfl (by first | exact Or.inl rfl | exact Or.inr rfl) (pe_callTy call_list_of rfl G.b_list boot_list (pa_cons (pv 1) pa_nil))) (pss_cons (ps_for PassesOwn.never rfl (pi_any (pe_ix ix_seq (pe_ix ix_seq (pe_ix ix_seq (pv 0) pe_int fun _ _ => rfl) (pv 2) fun _ _ => rfl) pe_int fun _ _ => rfl)) (pg_name (i := 4) sc_behind_task.nd rfl (by first | exact Or.inl rfl | exact Or.inr rfl)) (pss_one (ps_asg (pe_op op_subAll (pe_ix ix_seq (pv 3) (pv 4) fun _ _ => rfl) pe_int) (pg_sub (pv 3) (pv 4) set_list fun _ => rfl)))) (pss_cons (ps_for PassesOwn.never rfl (pi_any (pe_ix ix_seq (pe_ix ix_seq (pe_ix ix_seq (pv 0) pe_int fun _ _ => rfl) (pv 2) fun _ _ => rfl) pe_int fun _ _ => rfl)) (pg_name (i := 4) sc_behind_task.nd rfl (by first | exact Or.inl rfl | exact Or.inr rfl)) (pss_one (ps_asg (pe_op op_addAll (pe_ix ix_seq (pv 3) (pv 4) fun _ _ => rfl) pe_int) (pg_sub (pv 3) (pv 4) set_list fun _ => rfl)))) (pss_one (ps_ret (pe_ifExp (pt_cmpR op_le (pe_callB (cr_max rfl) rfl G.b_max boot_max (pa_cons (pv 3) pa_nil)) (pe_cint rfl G.c_MOST_TOKENS) (nomark _)) (pe_callTy call_tuple_of rfl G.b_tuple boot_tuple (pa_cons (pv 3) pa_nil)) pe_non)))))), body_ok (g := g_behind_task) (evs_seq (evs_setM (i := 3) (ev_c1N sim_list (ev_varx 1))) (evs_seq (evs_for (vs := [4]) (evi_any (ev_op sim_ix (EvE.x (ev_op sim_ix (EvE.x (ev_op sim_ix (ev_varx 0) (EvE.x (ev_int _)))) (ev_varx 2))) (EvE.x (ev_int _)))) (evg_name (i := 4) (by decide)) (evs_setIx (i := 3) (ev_op sim_sub (EvE.x (ev_op sim_ix (ev_varx 3) (ev_varx 4))) (EvE.x (ev_int _))) (ev_varx 4))) (evs_seq (evs_for (vs := [4]) (evi_any (ev_op sim_ix (EvE.x (ev_op sim_ix (EvE.x (ev_op sim_ix (ev_varx 0) (EvE.x (ev_int _)))) (ev_varx 2))) (EvE.x (ev_int _)))) (evg_name (i := 4) (by decide)) (evs_setIx (i := 3) (ev_op sim_add (EvE.x (ev_op sim_ix (ev_varx 3) (ev_varx 4))) (EvE.x (ev_int _))) (ev_varx 4))) (evs_ret (ev_if (evt_test (EvE.x (ev_op (sim_cmp _) (EvE.x (ev_c1 sim_maxL (ev_varx 3))) (EvE.x (ev_int _))))) (ev_c1 sim_tuple (ev_varx 3)) ev_non))))) h⟩)
/-! #### can_do -/
abbrev s_can_do : Stmt := top 30
abbrev N_can_do : List Str := ["sheet", "standing", "task", "place"]
theorem sc_can_do : FnScope N_can_do ["sheet", "standing", "task"] (defScope s_can_do) := ⟨rfl, rfl, rfl, by decide +kernel, rfl, by decide +kernel, by decide +kernel⟩
theorem ok_can_do {P : Program} {w : World} {K : PySem.W.Frag} {mg : Str → Option Value} {base : Heap} (G : Gs K mg) : Fn P w K mg base 1 "can_do" ["sheet", "standing", "task"] (SPd K 3 m_can_do) := by
  obtain ⟨fd, F⟩ := G.d_can_do
  exact fn_mk F G.g_can_do sc_can_do (FunD.bindsN F fun _ _ _ _ _ _ us hl => match us, hl with | [_, _, _], _ => rfl) (kbind_of F fun _ _ _ _ _ _ us hl => match us, hl with | [_, _, _], _ => rfl) (fun vs H Q ⟨_, _, _, _, _, _, h, _⟩ => h) (fun cdv A outer s H vs Q hr hg h => have hu := hr.units; ⟨_, (pss_one (ps_ret (pe_callB (cr_all rfl) rfl G.b_all boot_all (pa_cons (pe_lc (own := [("place", 3)]) rfl sc_can_do.nd (pi_any (pe_ix ix_seq (pe_ix ix_seq (pe_ix ix_seq (pv 0) pe_int fun _ _ => rfl) (pv 2) fun _ _ => rfl) pe_int fun _ _ => rfl)) (show BlkOk N_can_do (defScope s_can_do) _ _ from blkOk_by (by decide +kernel)) (fun _ _ _ _ _ => (pg_name (i := 3) sc_can_do.nd rfl (by first | exact Or.inl rfl | exact Or.inr rfl))) (fun _ _ _ _ _ => pts_nil) (fun _ _ _ _ _ => (pe_cmpR op_gt (pe_ix ix_seq (pv 1) (pv 3) fun _ _ => rfl) pe_int (nomark _)))) pa_nil)))), body_ok (g := g_can_do) (evs_ret (ev_c1 sim_all (EvN.x (ev_lc (own := [3]) (evi_any (ev_op sim_ix (EvE.x (ev_op sim_ix (EvE.x (ev_op sim_ix (ev_varx 0) (EvE.x (ev_int _)))) (ev_varx 2))) (EvE.x (ev_int _)))) (evg_name (i := 3) (by decide)) evt_yes (ev_op (sim_cmp _) (EvE.x (ev_op sim_ix (ev_varx 1) (ev_varx 3))) (EvE.x (ev_int _))))))) h⟩)
/-! #### first_wrong -/
abbrev s_first_wrong : Stmt := top 37
abbrev N_first_wrong : List Str := ["sheet", "standing", "run", "here", "position", "task"]
theorem sc_first_wrong : FnScope N_first_wrong ["sheet", "standing", "run"] (defScope s_first_wrong) := ⟨rfl, rfl, rfl, by decide +kernel, rfl, by decide +kernel, by decide +kernel⟩
theorem ok_first_wrong {P : Program} {w : World} {K : PySem.W.Frag} {mg : Str → Option Value} {base : Heap} (G : Gs K mg) : Fn P w K mg base 2 "first_wrong" ["sheet", "standing", "run"] (SPd K 3 m_first_wrong) := by
  obtain ⟨fd, F⟩ := G.d_first_wrong
  exact fn_mk F G.g_first_wrong sc_first_wrong (FunD.bindsN F fun _ _ _ _ _ _ us hl => match us, hl with | [_, _, _], _ => rfl) (kbind_of F fun _ _ _ _ _ _ us hl => match us, hl with | [_, _, _], _ => rfl) (fun vs H Q ⟨_, _, _, _, _, _, h, _⟩ => h) (fun cdv A outer s H vs Q hr hg h => have hu := hr.units; ⟨_, (pss_cons (ps_set (i := 3) sc_first_wrong.nd rfl (by first | exact Or.inl rfl | exact Or.inr rfl) (pv 1)) (pss_cons (ps_for PassesOwn.never rfl (pi_enumA rfl G.b_enumerate (pa_cons (pv 2) pa_nil)) (pg_tup rfl (pgs_cons (pg_name (i := 4) sc_first_wrong.nd rfl (by first | exact Or.inl rfl | exact Or.inr rfl)) (pgs_cons (pg_name (i := 5) sc_first_wrong.nd rfl (by first | exact Or.inl rfl | exact Or.inr rfl)) pgs_nil))) (pss_cons (ps_if (pt_not (pt_val (pe_fn ((ok_can_do G).mono (by decide)) hr hg rfl (pa_cons (pv 0) (pa_cons (pv 3) (pa_cons (pv 5) pa_nil)))))) (pss_one (ps_ret (pe_tup (pa_cons (pv 4) (pa_cons (pe_cstr rfl G.c_NOT) pa_nil))))) pss_nil) (pss_cons (ps_set (i := 3) sc_first_wrong.nd rfl (by first | exact Or.inl rfl | exact Or.inr rfl) (pe_fn ((ok_behind_task G).mono (by decide)) hr hg rfl (pa_cons (pv 0) (pa_cons (pv 3) (pa_cons (pv 5) pa_nil))))) (pss_one (ps_if (pt_cmpR op_isN (pv 3) pe_non (nomark _)) (pss_one (ps_ret (pe_tup (pa_cons (pv 4) (pa_cons (pe_cstr rfl G.c_SPILLS) pa_nil))))) pss_nil))))) (pss_one (ps_ret pe_non)))), body_ok (g := g_first_wrong) (evs_seq (evs_set (i := 3) (ev_var 1)) (evs_seq (evs_for (vs := [4, 5]) (evi_enum (ev_var 2)) (evg_tup (evgs_cons (evg_name (i := 4) (by decide)) (evgs_cons (evg_name (i := 5) (by decide)) evgs_nil))) (evs_seq (evs_if (evt_not (evt_val (EvE.x (ev_cl (evar_d (ev_var 0) (evar_d (ev_var 3) (evar_d (ev_var 5) evar_nil))))))) (evs_ret (ev_tup (eva_cons (ev_var 4) (eva_cons (ev_str _) eva_nil)))) evs_nil) (evs_seq (evs_set (i := 3) (ev_cl (evar_d (ev_var 0) (evar_d (ev_var 3) (evar_d (ev_var 5) evar_nil))))) (evs_if (evt_test (EvE.x (ev_op sim_isN (ev_varx 3) (EvE.x ev_non)))) (evs_ret (ev_tup (eva_cons (ev_var 4) (eva_cons (ev_str _) eva_nil)))) evs_nil)))) (evs_ret ev_non))) h⟩)
/-! #### run_flaw -/
abbrev s_run_flaw : Stmt := top 40
abbrev N_run_flaw : List Str := ["sheet", "standing", "run"]
theorem sc_run_flaw : FnScope N_run_flaw ["sheet", "standing", "run"] (defScope s_run_flaw) := ⟨rfl, rfl, rfl, by decide +kernel, rfl, by decide +kernel, by decide +kernel⟩
theorem ok_run_flaw {P : Program} {w : World} {K : PySem.W.Frag} {mg : Str → Option Value} {base : Heap} (G : Gs K mg) : Fn P w K mg base 7 "run_flaw" ["sheet", "standing", "run"] (SPd K 3 m_run_flaw) := by
  obtain ⟨fd, F⟩ := G.d_run_flaw
  exact fn_mk F G.g_run_flaw sc_run_flaw (FunD.bindsN F fun _ _ _ _ _ _ us hl => match us, hl with | [_, _, _], _ => rfl) (kbind_of F fun _ _ _ _ _ _ us hl => match us, hl with | [_, _, _], _ => rfl) (fun vs H Q ⟨_, _, _, _, _, _, h, _⟩ => h) (fun cdv A outer s H vs Q hr hg h => have hu := hr.units; ⟨_, (pss_cons (ps_expr (pe_fn ((ok_want_sheet G).mono (by decide)) hr hg rfl (pa_cons (pv 0) pa_nil))) (pss_cons (ps_expr (pe_fn ((ok_want_standing G).mono (by decide)) hr hg rfl (pa_cons (pv 0) (pa_cons (pv 1) pa_nil)))) (pss_cons (ps_expr (pe_fn ((ok_want_run G).mono (by decide)) hr hg rfl (pa_cons (pv 0) (pa_cons (pv 2) pa_nil)))) (pss_one (ps_ret (pe_fn ((ok_first_wrong G).mono (by decide)) hr hg rfl (pa_cons (pv 0) (pa_cons (pv 1) (pa_cons (pv 2) pa_nil))))))))), body_ok (g := g_run_flaw) (evs_seq (evs_drop (EvE.x (ev_cl (evar_d (ev_var 0) evar_nil)))) (evs_seq (evs_drop (EvE.x (ev_cl (evar_d (ev_var 0) (evar_d (ev_var 1) evar_nil))))) (evs_seq (evs_drop (EvE.x (ev_cl (evar_d (ev_var 0) (evar_d (ev_var 2) evar_nil))))) (evs_ret (ev_cl (evar_d (ev_var 0) (evar_d (ev_var 1) (evar_d (ev_var 2) evar_nil)))))))) h⟩)
/-! #### led -/
abbrev s_led : Stmt := top 32
abbrev N_led : List Str := ["sheet", "standing", "run", "here", "task"]
theorem sc_led : FnScope N_led ["sheet", "standing", "run"] (defScope s_led) := ⟨rfl, rfl, rfl, by decide +kernel, rfl, by decide +kernel, by decide +kernel⟩
theorem ok_led {P : Program} {w : World} {K : PySem.W.Frag} {mg : Str → Option Value} {base : Heap} (G : Gs K mg) : Fn P w K mg base 2 "led" ["sheet", "standing", "run"] (SPd K 3 m_led) := by
  obtain ⟨fd, F⟩ := G.d_led
  exact fn_mk F G.g_led sc_led (FunD.bindsN F fun _ _ _ _ _ _ us hl => match us, hl with | [_, _, _], _ => rfl) (kbind_of F fun _ _ _ _ _ _ us hl => match us, hl with | [_, _, _], _ => rfl) (fun vs H Q ⟨_, _, _, _, _, _, h, _⟩ => h) (fun cdv A outer s H vs Q hr hg h => have hu := hr.units; ⟨_, (pss_cons (ps_set (i := 3) sc_led.nd rfl (by first | exact Or.inl rfl | exact Or.inr rfl) (pv 1)) (pss_cons (ps_for PassesOwn.never rfl (pi_any (pv 2)) (pg_name (i := 4) sc_led.nd rfl (by first | exact Or.inl rfl | exact Or.inr rfl)) (pss_cons (ps_set (i := 3) sc_led.nd rfl (by first | exact Or.inl rfl | exact Or.inr rfl) (pe_ifExp (pt_val (pe_fn ((ok_can_do G).mono (by decide)) hr hg rfl (pa_cons (pv 0) (pa_cons (pv 3) (pa_cons (pv 4) pa_nil))))) (pe_fn ((ok_behind_task G).mono (by decide)) hr hg rfl (pa_cons (pv 0) (pa_cons (pv 3) (pa_cons (pv 4) pa_nil)))) pe_non)) (pss_one (ps_if (pt_cmpR op_isN (pv 3) pe_non (nomark _)) (pss_one (ps_ret pe_non)) pss_nil)))) (pss_one (ps_ret (pv 3))))), body_ok (g := g_led) (evs_seq (evs_set (i := 3) (ev_var 1)) (evs_seq (evs_for (vs := [4]) (evi_any (ev_var 2)) (evg_name (i := 4) (by decide)) (evs_seq (evs_set (i := 3) (ev_if (evt_val (EvE.x (ev_cl (evar_d (ev_var 0) (evar_d (ev_var 3) (evar_d (ev_var 4) evar_nil)))))) (ev_cl (evar_d (ev_var 0) (evar_d (ev_var 3) (evar_d (ev_var 4) evar_nil)))) ev_non)) (evs_if (evt_test (EvE.x (ev_op sim_isN (ev_varx 3) (EvE.x ev_non)))) (evs_ret ev_non) evs_nil))) (evs_ret (ev_var 3)))) h⟩)
/-! #### standing_behind -/
abbrev s_standing_behind : Stmt := top 41
abbrev N_standing_behind : List Str := ["sheet", "standing", "run"]
theorem sc_standing_behind : FnScope N_standing_behind ["sheet", "standing", "run"] (defScope s_standing_behind) := ⟨rfl, rfl, rfl, by decide +kernel, rfl, by decide +kernel, by decide +kernel⟩
theorem ok_standing_behind {P : Program} {w : World} {K : PySem.W.Frag} {mg : Str → Option Value} {base : Heap} (G : Gs K mg) : Fn P w K mg base 7 "standing_behind" ["sheet", "standing", "run"] (SPd K 3 m_standing_behind) := by
  obtain ⟨fd, F⟩ := G.d_standing_behind
  exact fn_mk F G.g_standing_behind sc_standing_behind (FunD.bindsN F fun _ _ _ _ _ _ us hl => match us, hl with | [_, _, _], _ => rfl) (kbind_of F fun _ _ _ _ _ _ us hl => match us, hl with | [_, _, _], _ => rfl) (fun vs H Q ⟨_, _, _, _, _, _, h, _⟩ => h) (fun cdv A outer s H vs Q hr hg h => have hu := hr.units; ⟨_, (pss_cons (ps_expr (pe_fn ((ok_want_sheet G).mono (by decide)) hr hg rfl (pa_cons (pv 0) pa_nil))) (pss_cons (ps_expr (pe_fn ((ok_want_standing G).mono (by decide)) hr hg rfl (pa_cons (pv 0) (pa_cons (pv 1) pa_nil)))) (pss_cons (ps_expr (pe_fn ((ok_want_run G).mono (by decide)) hr hg rfl (pa_cons (pv 0) (pa_cons (pv 2) pa_nil)))) (pss_one (ps_ret (pe_fn ((ok_led G).mono (by decide)) hr hg rfl (pa_cons (pv 0) (pa_cons (pv 1) (pa_cons (pv 2) pa_nil))))))))), body_ok (g := g_standing_behind) (evs_seq (evs_drop (EvE.x (ev_cl (evar_d (ev_var 0) evar_nil)))) (evs_seq (evs_drop (EvE.x (ev_cl (evar_d (ev_var 0) (evar_d (ev_var 1) evar_nil))))) (evs_seq (evs_drop (EvE.x (ev_cl (evar_d (ev_var 0) (evar_d (ev_var 2) evar_nil))))) (evs_ret (ev_cl (evar_d (ev_var 0) (evar_d (ev_var 1) (evar_d (ev_var 2) evar_nil)))))))) h⟩)
/-! #### row_along -/
abbrev s_row_along : Stmt := top 33
abbrev N_row_along : List Str := ["sheet", "run", "task"]
theorem sc_row_along : FnScope N_row_along ["sheet", "run"] (defScope s_row_along) := ⟨rfl, rfl, rfl, by decide +kernel, rfl, by decide +kernel, by decide +kernel⟩
theorem ok_row_along {P : Program} {w : World} {K : PySem.W.Frag} {mg : Str → Option Value} {base : Heap} (G : Gs K mg) : Fn P w K mg base 1 "row_along" ["sheet", "run"] (SPn K 2 m_row_along) := by
  obtain ⟨fd, F⟩ := G.d_row_along
  exact fn_mk F G.g_row_along sc_row_along (FunD.bindsN F fun _ _ _ _ _ _ us hl => match us, hl with | [_, _], _ => rfl) (kbind_of F fun _ _ _ _ _ _ us hl => match us, hl with | [_, _], _ => rfl) (fun vs H Q ⟨_, _, _, _, _, _, h, _⟩ => h) (fun cdv A outer s H vs Q hr hg h => have hu := hr.units; ⟨_, (pss_one (ps_ret (pe_lc (own := [("task", 2)]) rfl sc_row_along.nd (pi_any (pv 1)) (show BlkOk N_row_along (defScope s_row_along) _ _ from blkOk_by (by decide +kernel)) (fun _ _ _ _ _ => (pg_name (i := 2) sc_row_along.nd rfl (by first | exact Or.inl rfl | exact Or.inr rfl))) (fun _ _ _ _ _ => (pts_one (pt_cmpR (op_neY hu) (pe_ix ix_seq (pe_ix ix_seq (pe_ix ix_seq (pv 0) pe_int fun _ _ => rfl) (pv 2) fun _ _ => rfl) pe_int fun _ _ => rfl) pe_str (nomark _)))) (fun _ _ _ _ _ => (pe_ix ix_seq (pe_ix ix_seq (pe_ix ix_seq (pv 0) pe_int fun _ _ => rfl) (pv 2) fun _ _ => rfl) pe_int fun _ _ => rfl))))), body_okR (g := g_row_along) (evr_ret (ev_lc (own := [2]) (evi_any (ev_var 1)) (evg_name (i := 2) (by decide)) (evt_test (EvE.x (ev_op (sim_eq true) (EvE.x (ev_op sim_ix (EvE.x (ev_op sim_ix (EvE.x (ev_op sim_ix (ev_varx 0) (EvE.x (ev_int _)))) (ev_varx 2))) (EvE.x (ev_int _)))) (EvE.x (ev_str _))))) (ev_op sim_ix (EvE.x (ev_op sim_ix (EvE.x (ev_op sim_ix (ev_varx 0) (EvE.x (ev_int _)))) (ev_varx 2))) (EvE.x (ev_int _))))) h⟩)
/-! #### row_of -/
abbrev s_row_of : Stmt := top 42
abbrev N_row_of : List Str := ["sheet", "run"]
theorem sc_row_of : FnScope N_row_of ["sheet", "run"] (defScope s_row_of) := ⟨rfl, rfl, rfl, by decide +kernel, rfl, by decide +kernel, by decide +kernel⟩
theorem ok_row_of {P : Program} {w : World} {K : PySem.W.Frag} {mg : Str → Option Value} {base : Heap} (G : Gs K mg) : Fn P w K mg base 7 "row_of" ["sheet", "run"] (SPn K 2 m_row_of) := by
  obtain ⟨fd, F⟩ := G.d_row_of
  exact fn_mk F G.g_row_of sc_row_of (FunD.bindsN F fun _ _ _ _ _ _ us hl => match us, hl with | [_, _], _ => rfl) (kbind_of F fun _ _ _ _ _ _ us hl => match us, hl with | [_, _], _ => rfl) (fun vs H Q ⟨_, _, _, _, _, _, h, _⟩ => h) (fun cdv A outer s H vs Q hr hg h => have hu := hr.units; ⟨_, (pss_cons (ps_expr (pe_fn ((ok_want_sheet G).mono (by decide)) hr hg rfl (pa_cons (pv 0) pa_nil))) (pss_cons (ps_expr (pe_fn ((ok_want_run G).mono (by decide)) hr hg rfl (pa_cons (pv 0) (pa_cons (pv 1) pa_nil)))) (pss_one (ps_ret (pe_fn ((ok_row_along G).mono (by decide)) hr hg rfl (pa_cons (pv 0) (pa_cons (pv 1) pa_nil))))))), body_okR (g := g_row_of) (evr_seq (evs_drop (EvE.x (ev_cl (evar_d (ev_var 0) evar_nil)))) (evr_seq (evs_drop (EvE.x (ev_cl (evar_d (ev_var 0) (evar_d (ev_var 1) evar_nil))))) (evr_ret (ev_clN (evar_d (ev_var 0) (evar_d (ev_var 1) evar_nil)))))) h⟩)
/-! #### is_whole_run -/
abbrev s_is_whole_run : Stmt := top 43
abbrev N_is_whole_run : List Str := ["sheet", "run"]
theorem sc_is_whole_run : FnScope N_is_whole_run ["sheet", "run"] (defScope s_is_whole_run) := ⟨rfl, rfl, rfl, by decide +kernel, rfl, by decide +kernel, by decide +kernel⟩
theorem ok_is_whole_run {P : Program} {w : World} {K : PySem.W.Frag} {mg : Str → Option Value} {base : Heap} (G : Gs K mg) : Fn P w K mg base 7 "is_whole_run" ["sheet", "run"] (SPd K 2 m_is_whole_run) := by
  obtain ⟨fd, F⟩ := G.d_is_whole_run
  exact fn_mk F G.g_is_whole_run sc_is_whole_run (FunD.bindsN F fun _ _ _ _ _ _ us hl => match us, hl with | [_, _], _ => rfl) (kbind_of F fun _ _ _ _ _ _ us hl => match us, hl with | [_, _], _ => rfl) (fun vs H Q ⟨_, _, _, _, _, _, h, _⟩ => h) (fun cdv A outer s H vs Q hr hg h => have hu := hr.units; ⟨_, (pss_cons (ps_expr (pe_fn ((ok_want_sheet G).mono (by decide)) hr hg rfl (pa_cons (pv 0) pa_nil))) (pss_cons (ps_expr (pe_fn ((ok_want_run G).mono (by decide)) hr hg rfl (pa_cons (pv 0) (pa_cons (pv 1) pa_nil)))) (pss_one (ps_ret (pe_cmpR (op_eqY hu) (pe_fn ((ok_led G).mono (by decide)) hr hg rfl (pa_cons (pv 0) (pa_cons (pe_ix ix_seq (pv 0) pe_int fun _ _ => rfl) (pa_cons (pv 1) pa_nil)))) (pe_ix ix_seq (pv 0) pe_int fun _ _ => rfl) (nomark _)))))), body_ok (g := g_is_whole_run) (evs_seq (evs_drop (EvE.x (ev_cl (evar_d (ev_var 0) evar_nil)))) (evs_seq (evs_drop (EvE.x (ev_cl (evar_d (ev_var 0) (evar_d (ev_var 1) evar_nil))))) (evs_ret (ev_op (sim_eq false) (EvE.x (ev_cl (evar_d (ev_var 0) (evar_d (ev_op sim_ix (ev_varx 0) (EvE.x (ev_int _))) (evar_d (ev_var 1) evar_nil))))) (EvE.x (ev_op sim_ix (ev_varx 0) (EvE.x (ev_int _)))))))) h⟩)
/-! #### _law_run_right -/
abbrev s__law_run_right : Stmt := top 53
abbrev N__law_run_right : List Str := ["sheet", "standing", "run", "flaw", "late", "shown", "names", "told", "again", "due", "is_whole", "half", "middle", "task", "name"]
theorem sc__law_run_right : FnScope N__law_run_right ["sheet", "standing", "run"] (defScope s__law_run_right) := ⟨rfl, rfl, rfl, by decide +kernel, rfl, by decide +kernel, by decide +kernel⟩
def g__law_run_right : MS := (sSeq (sUnp (tTupG (tsCons (tName 3) (tsCons (tName 4) tsNil)) 2) (fCl 3 m__law_gone (aD (fV 0) (aD (fV 1) (aD (fV 2) aNil))))) (sSeq (sPar 5 6 (aD (fU gRepr (fL (fLst (fCons (fV 0) (fCons (fV 2) fNil))))) (aD (fL (fLc (iL (fV 2)) [13] (tName 13) bYes (fB gIx (fB gIx (fB gIx (fVx 0) (fC (.int 2))) (fVx 13)) (fC (.int 0))))) aNil))) (wNew 7 (aD (fCl 3 m_run_flaw (aD (fV 0) (aD (fV 1) (aD (fV 2) aNil)))) (aD (fCl 3 m_standing_behind (aD (fV 0) (aD (fV 1) (aD (fV 2) aNil)))) (aN (fClN 2 m_row_of (aD (fV 0) (aD (fV 2) aNil))) aNil))) (wMid (sSet 8 (fL (fLst (fCons (fClP [2, 1, 0] m_run_flaw (aD (fU gTuple (fVx 2)) (aD (fV 1) (aD (fV 0) aNil)))) (fCons (fClP [2, 1, 0] m_standing_behind (aD (fU gTuple (fVx 2)) (aD (fV 1) (aD (fV 0) aNil)))) fNil))))) (wMid (sSet 9 (fL (fLst (fCons (fV 3) (fCons (fV 4) (fCons (fL (fLc (iL (fV 6)) [14] (tName 14) (fTv (fB (gEq true) (fVx 14) (fC (.str "")))) (fV 14))) fNil)))))) (wIf 7 (fTv (fB (gEq true) (fU gRepr (fL (fLst (fCons (fV 7) (fCons (fL (fBN gCatL (fVx 8) (fL (fLst (fCons (fClP [1, 0] (mL m_row_of) (aD (fU gTuple (fVx 2)) (aD (fV 0) aNil))) fNil))))) fNil))))) (fU gRepr (fL (fLst (fCons (fV 9) (fCons (fV 9) fNil))))))) (fC (.bool false)) (wApp 2 (fC (.str "x")) (fun _ => (sSeq (sSet 10 (fB (gEq false) (fB gIx (fCl 3 m__law_gone (aD (fV 0) (aD (fB gIx (fVx 0) (fC (.int 3))) (aD (fV 2) aNil)))) (fC (.int 1))) (fB gIx (fVx 0) (fC (.int 4))))) (sSeq (sIf (fTv (fB (gEq true) (fU gRepr (fL (fLst (fCons (fCl 2 m_is_whole_run (aD (fV 0) (aD (fV 2) aNil))) (fCons (fClP [1, 0] m_is_whole_run (aD (fU gTuple (fVx 2)) (aD (fV 0) aNil))) fNil))))) (fU gRepr (fL (fLst (fCons (fV 10) (fCons (fV 10) fNil))))))) (sRet (fC (.bool false))) sNil) (sSeq (sIf (fAndT (fTv (fB (gIsN false) (fVx 3) (fC .none))) (fTv (fB gGt (fU gLen (fVx 2)) (fC (.int 1))))) (sSeq (sSet 11 (fB gDiv (fU gLen (fVx 2)) (fC (.int 2)))) (sSeq (sSet 12 (fCl 3 m_standing_behind (aD (fV 0) (aD (fV 1) (aD (fL (fSlL (fVx 2) oNone (oSome (fVx 11)))) aNil))))) (sIf (fTv (fB (gEq true) (fCl 3 m_standing_behind (aD (fV 0) (aD (fV 12) (aD (fL (fSlL (fVx 2) (oSome (fVx 11)) oNone)) aNil)))) (fVx 4))) (sRet (fC (.bool false))) sNil))) sNil) (sRet (fAndV (fB (gEq false) (fU gRepr (fL (fLst (fCons (fV 0) (fCons (fV 2) fNil))))) (fVx 5)) (fB (gEq false) (fU gRepr (fL (fClN 2 m_row_of (aD (fV 0) (aD (fV 2) aNil))))) (fU gRepr (fB gIx (fVx 9) (fC (.int 2))))))))))))))))))
def m__law_run_right : MF := mOf 15 g__law_run_right
theorem ok__law_run_right {P : Program} {w : World} {K : PySem.W.Frag} {mg : Str → Option Value} {base : Heap} (G : Gs K mg) : Fn P w K mg base 8 "_law_run_right" ["sheet", "standing", "run"] (SPd K 3 m__law_run_right) := by
  obtain ⟨fd, F⟩ := G.d__law_run_right
  exact fn_mk F G.g__law_run_right sc__law_run_right (FunD.bindsN F fun _ _ _ _ _ _ us hl => match us, hl with | [_, _, _], _ => rfl) (kbind_of F fun _ _ _ _ _ _ us hl => match us, hl with | [_, _, _], _ => rfl) (fun vs H Q ⟨_, _, _, _, _, _, h, _⟩ => h) (fun cdv A outer s H vs Q hr hg h => have hu := hr.units; ⟨_, (pss_cons (ps_asg (pe_fn ((ok__law_gone G).mono (by decide)) hr hg rfl (pa_cons (pv 0) (pa_cons (pv 1) (pa_cons (pv 2) pa_nil)))) (pg_tup rfl (pgs_cons (pg_name (i := 3) sc__law_run_right.nd rfl (by first | exact Or.inl rfl | exact Or.inr rfl)) (pgs_cons (pg_name (i := 4) sc__law_run_right.nd rfl (by first | exact Or.inl rfl | exact Or.inr rfl)) pgs_nil)))) (pss_cons (ps_par (i := 5) (j := 6) rfl sc__law_run_right.nd rfl rfl (by decide) rfl rfl (pa_cons (pe_callB (call_reprX hg hu) rfl G.b_repr boot_repr (pa_cons (pe_lst (pa_cons (pv 0) (pa_cons (pv 2) pa_nil))) pa_nil)) (pa_cons (pe_lc (own := [("task", 13)]) rfl sc__law_run_right.nd (pi_list (pv 2)) (show BlkOk N__law_run_right (defScope s__law_run_right) _ _ from blkOk_by (by decide +kernel)) (fun _ _ _ _ _ => (pg_name (i := 13) sc__law_run_right.nd rfl (by first | exact Or.inl rfl | exact Or.inr rfl))) (fun _ _ _ _ _ => pts_nil) (fun _ _ _ _ _ => (pe_ix ix_seq (pe_ix ix_seq (pe_ix ix_seq (pv 0) pe_int fun _ _ => rfl) (pv 13) fun _ _ => rfl) pe_int fun _ _ => rfl))) pa_nil)) rfl) (pss_cons (ps_set (i := 7) sc__law_run_right.nd rfl (by first | exact Or.inl rfl | exact Or.inr rfl) (pe_lst (pa_cons (pe_fn ((ok_run_flaw G).mono (by decide)) hr hg rfl (pa_cons (pv 0) (pa_cons (pv 1) (pa_cons (pv 2) pa_nil)))) (pa_cons (pe_fn ((ok_standing_behind G).mono (by decide)) hr hg rfl (pa_cons (pv 0) (pa_cons (pv 1) (pa_cons (pv 2) pa_nil)))) (pa_cons (pe_fn ((ok_row_of G).mono (by decide)) hr hg rfl (pa_cons (pv 0) (pa_cons (pv 2) pa_nil))) pa_nil))))) (pss_cons (ps_set (i := 8) sc__law_run_right.nd rfl (by first | exact Or.inl rfl | exact Or.inr rfl) (pe_lst (pa_cons (pe_fnKP (ks := ["run", "standing", "sheet"]) (ix := [2, 1, 0]) ((ok_run_flaw G).mono (by decide)) G.d_run_flaw (fun _ _ _ _ _ _ us hl => match us, hl with | [_, _, _], _ => rfl) rfl hr hg rfl (pk_cons (pe_callTy call_tuple_of rfl G.b_tuple boot_tuple (pa_cons (pv 2) pa_nil)) (pk_cons (pv 1) (pk_cons (pv 0) pk_nil)))) (pa_cons (pe_fnKP (ks := ["run", "standing", "sheet"]) (ix := [2, 1, 0]) ((ok_standing_behind G).mono (by decide)) G.d_standing_behind (fun _ _ _ _ _ _ us hl => match us, hl with | [_, _, _], _ => rfl) rfl hr hg rfl (pk_cons (pe_callTy call_tuple_of rfl G.b_tuple boot_tuple (pa_cons (pv 2) pa_nil)) (pk_cons (pv 1) (pk_cons (pv 0) pk_nil)))) pa_nil)))) (pss_cons (ps_set (i := 9) sc__law_run_right.nd rfl (by first | exact Or.inl rfl | exact Or.inr rfl) (pe_lst (pa_cons (pv 3) (pa_cons (pv 4) (pa_cons (pe_lc (own := [("name", 14)]) rfl sc__law_run_right.nd (pi_list (pv 6)) (show BlkOk N__law_run_right (defScope s__law_run_right) _ _ from blkOk_by (by decide +kernel)) (fun _ _ _ _ _ => (pg_name (i := 14) sc__law_run_right.nd rfl (by first | exact Or.inl rfl | exact Or.inr rfl))) (fun _ _ _ _ _ => (pts_one (pt_cmpR (op_neY hu) (pv 14) pe_str (nomark _)))) (fun _ _ _ _ _ => (pv 14))) pa_nil))))) (pss_cons (ps_if (pt_cmpR (op_neY hu) (pe_callB (call_reprX hg hu) rfl G.b_repr boot_repr (pa_cons (pe_lst (pa_cons (pv 7) (pa_cons (pe_op op_catL (pv 8) (pe_lst (pa_cons (pe_fnKP (ks := ["run", "sheet"]) (ix := [1, 0]) (Fn.toD ((ok_row_of G).mono (by decide))) G.d_row_of (fun _ _ _ _ _ _ us hl => match us, hl with | [_, _], _ => rfl) rfl hr hg rfl (pk_cons (pe_callTy call_tuple_of rfl G.b_tuple boot_tuple (pa_cons (pv 2) pa_nil)) (pk_cons (pv 0) pk_nil))) pa_nil))) pa_nil))) pa_nil)) (pe_callB (call_reprX hg hu) rfl G.b_repr boot_repr (pa_cons (pe_lst (pa_cons (pv 9) (pa_cons (pv 9) pa_nil))) pa_nil)) (nomark _)) (pss_one (ps_ret pe_bl)) pss_nil) (pss_cons (ps_expr (pe_bm PySem.F.plainAttrs_list PySem.F.slot_list_append PySem.F.type_list_append mt_append (pe_ix ix_seq (pv 7) pe_int fun _ _ => rfl) (pa_cons pe_str pa_nil))) (pss_cons (ps_set (i := 10) sc__law_run_right.nd rfl (by first | exact Or.inl rfl | exact Or.inr rfl) (pe_cmpR (op_eqY hu) (pe_ix ix_seq (pe_fn ((ok__law_gone G).mono (by decide)) hr hg rfl (pa_cons (pv 0) (pa_cons (pe_ix ix_seq (pv 0) pe_int fun _ _ => rfl) (pa_cons (pv 2) pa_nil)))) pe_int fun _ _ => rfl) (pe_ix ix_seq (pv 0) pe_int fun _ _ => rfl) (nomark _))) (pss_cons (ps_if (pt_cmpR (op_neY hu) (pe_callB (call_reprX hg hu) rfl G.b_repr boot_repr (pa_cons (pe_lst (pa_cons (pe_fn ((ok_is_whole_run G).mono (by decide)) hr hg rfl (pa_cons (pv 0) (pa_cons (pv 2) pa_nil))) (pa_cons (pe_fnKP (ks := ["run", "sheet"]) (ix := [1, 0]) ((ok_is_whole_run G).mono (by decide)) G.d_is_whole_run (fun _ _ _ _ _ _ us hl => match us, hl with | [_, _], _ => rfl) rfl hr hg rfl (pk_cons (pe_callTy call_tuple_of rfl G.b_tuple boot_tuple (pa_cons (pv 2) pa_nil)) (pk_cons (pv 0) pk_nil))) pa_nil))) pa_nil)) (pe_callB (call_reprX hg hu) rfl G.b_repr boot_repr (pa_cons (pe_lst (pa_cons (pv 10) (pa_cons (pv 10) pa_nil))) pa_nil)) (nomark _)) (pss_one (ps_ret pe_bl)) pss_nil) (pss_cons (ps_if (PW.pt (pw_and (pt_cmpR op_isN (pv 3) pe_non (nomark _)) (pw_and1 (pt_cmpR op_gt (pe_callB call_len rfl G.b_len boot_len (pa_cons (pv 2) pa_nil)) pe_int (nomark _))))) (pss_cons (ps_set (i := 11) sc__law_run_right.nd rfl (by first | exact Or.inl rfl | exact Or.inr rfl) (pe_op op_fdiv (pe_callB call_len rfl G.b_len boot_len (pa_cons (pv 2) pa_nil)) pe_int)) (pss_cons (ps_set (i := 12) sc__law_run_right.nd rfl (by first | exact Or.inl rfl | exact Or.inr rfl) (pe_fn ((ok_standing_behind G).mono (by decide)) hr hg rfl (pa_cons (pv 0) (pa_cons (pv 1) (pa_cons (pe_slice sl_list (pv 2) po_none (po_some (pv 11))) pa_nil))))) (pss_one (ps_if (pt_cmpR (op_neY hu) (pe_fn ((ok_standing_behind G).mono (by decide)) hr hg rfl (pa_cons (pv 0) (pa_cons (pv 12) (pa_cons (pe_slice sl_list (pv 2) (po_some (pv 11)) po_none) pa_nil)))) (pv 4) (nomark _)) (pss_one (ps_ret pe_bl)) pss_nil)))) pss_nil) (pss_one (ps_ret (pe_and (pe_cmpR (op_eqY hu) (pe_callB (call_reprX hg hu) rfl G.b_repr boot_repr (pa_cons (pe_lst (pa_cons (pv 0) (pa_cons (pv 2) pa_nil))) pa_nil)) (pv 5) (nomark _)) (pe_one (pe_cmpR (op_eqY hu) (pe_callB (call_reprX hg hu) rfl G.b_repr boot_repr (pa_cons (pe_fn ((ok_row_of G).mono (by decide)) hr hg rfl (pa_cons (pv 0) (pa_cons (pv 2) pa_nil))) pa_nil)) (pe_callB (call_reprX hg hu) rfl G.b_repr boot_repr (pa_cons (pe_ix ix_seq (pv 9) pe_int fun _ _ => rfl) pa_nil)) (nomark _)))))))))))))))), body_ok (g := g__law_run_right) (evs_seq (evs_unp (vs := [3, 4]) (ev_cl (evar_d (ev_var 0) (evar_d (ev_var 1) (evar_d (ev_var 2) evar_nil)))) (evg_tup (evgs_cons (evg_name (i := 3) (by decide)) (evgs_cons (evg_name (i := 4) (by decide)) evgs_nil)))) (evs_seq (evs_par (i := 5) (j := 6) (evar_d (ev_c1 sim_repr (EvN.x (ev_lst (eva_cons (ev_var 0) (eva_cons (ev_var 2) eva_nil))))) (evar_d (EvN.e (ev_lc (own := [13]) (evi_list (ev_var 2)) (evg_name (i := 13) (by decide)) evt_yes (ev_op sim_ix (EvE.x (ev_op sim_ix (EvE.x (ev_op sim_ix (ev_varx 0) (EvE.x (ev_int _)))) (ev_varx 13))) (EvE.x (ev_int _))))) evar_nil))) (evw_new (i := 7) (evar_d (ev_cl (evar_d (ev_var 0) (evar_d (ev_var 1) (evar_d (ev_var 2) evar_nil)))) (evar_d (ev_cl (evar_d (ev_var 0) (evar_d (ev_var 1) (evar_d (ev_var 2) evar_nil)))) (evar_n (ev_clN (evar_d (ev_var 0) (evar_d (ev_var 2) evar_nil))) evar_nil))) (evw_mid (vs := [8]) (by decide) (evp_set (i := 8) (vs := [8]) (by decide) (EvN.e (ev_lst (eva_cons (ev_clP (ix := [2, 1, 0]) (evar_d (ev_c1 sim_tuple (ev_varx 2)) (evar_d (ev_var 1) (evar_d (ev_var 0) evar_nil)))) (eva_cons (ev_clP (ix := [2, 1, 0]) (evar_d (ev_c1 sim_tuple (ev_varx 2)) (evar_d (ev_var 1) (evar_d (ev_var 0) evar_nil)))) eva_nil))))) (evw_mid (vs := [9]) (by decide) (evp_set (i := 9) (vs := [9]) (by decide) (EvN.e (ev_lst (eva_cons (ev_var 3) (eva_cons (ev_var 4) (eva_cons (EvN.e (ev_lc (own := [14]) (evi_list (ev_var 6)) (evg_name (i := 14) (by decide)) (evt_test (EvE.x (ev_op (sim_eq true) (ev_varx 14) (EvE.x (ev_str _))))) (ev_var 14))) eva_nil)))))) (evw_if (i := 7) (evt_test (EvE.x (ev_op (sim_eq true) (EvE.x (ev_c1 sim_repr (EvN.x (ev_lst (eva_cons (ev_var 7) (eva_cons (EvN.e (ev_opN sim_catL (ev_varx 8) (EvN.x (ev_lst (eva_cons (ev_clP (ix := [1, 0]) (evar_d (ev_c1 sim_tuple (ev_varx 2)) (evar_d (ev_var 0) evar_nil))) eva_nil))))) eva_nil)))))) (EvE.x (ev_c1 sim_repr (EvN.x (ev_lst (eva_cons (ev_var 9) (eva_cons (ev_var 9) eva_nil))))))))) (ev_bl _) (evw_app (i := 7) (k := 2) (ev_str _) (evw_end (evs_seq (evs_set (i := 10) (ev_op (sim_eq false) (EvE.x (ev_op sim_ix (EvE.x (ev_cl (evar_d (ev_var 0) (evar_d (ev_op sim_ix (ev_varx 0) (EvE.x (ev_int _))) (evar_d (ev_var 2) evar_nil))))) (EvE.x (ev_int _)))) (EvE.x (ev_op sim_ix (ev_varx 0) (EvE.x (ev_int _)))))) (evs_seq (evs_if (evt_test (EvE.x (ev_op (sim_eq true) (EvE.x (ev_c1 sim_repr (EvN.x (ev_lst (eva_cons (ev_cl (evar_d (ev_var 0) (evar_d (ev_var 2) evar_nil))) (eva_cons (ev_clP (ix := [1, 0]) (evar_d (ev_c1 sim_tuple (ev_varx 2)) (evar_d (ev_var 0) evar_nil))) eva_nil)))))) (EvE.x (ev_c1 sim_repr (EvN.x (ev_lst (eva_cons (ev_var 10) (eva_cons (ev_var 10) eva_nil))))))))) (evs_ret (ev_bl _)) evs_nil) (evs_seq (evs_if (evt_and (evt_test (EvE.x (ev_op sim_isN (ev_varx 3) (EvE.x ev_non)))) (evt_test (EvE.x (ev_op (sim_cmp _) (EvE.x (ev_c1 sim_len (ev_varx 2))) (EvE.x (ev_int _)))))) (evs_seq (evs_set (i := 11) (ev_op sim_div (EvE.x (ev_c1 sim_len (ev_varx 2))) (EvE.x (ev_int _)))) (evs_seq (evs_set (i := 12) (ev_cl (evar_d (ev_var 0) (evar_d (ev_var 1) (evar_d (EvN.e (ev_slL (ev_varx 2) evo_none (evo_some (ev_varx 11)))) evar_nil))))) (evs_if (evt_test (EvE.x (ev_op (sim_eq true) (EvE.x (ev_cl (evar_d (ev_var 0) (evar_d (ev_var 12) (evar_d (EvN.e (ev_slL (ev_varx 2) (evo_some (ev_varx 11)) evo_none)) evar_nil))))) (ev_varx 4)))) (evs_ret (ev_bl _)) evs_nil))) evs_nil) (evs_ret (ev_andV (EvE.x (ev_op (sim_eq false) (EvE.x (ev_c1 sim_repr (EvN.x (ev_lst (eva_cons (ev_var 0) (eva_cons (ev_var 2) eva_nil)))))) (ev_varx 5))) (ev_op (sim_eq false) (EvE.x (ev_c1 sim_repr (EvN.x (ev_clN (evar_d (ev_var 0) (evar_d (ev_var 2) evar_nil)))))) (EvE.x (ev_c1 sim_repr (EvE.x (ev_op sim_ix (ev_varx 9) (EvE.x (ev_int _)))))))))))))))))))) h⟩)
/-! #### _law_lot -/
abbrev s__law_lot : Stmt := top 48
abbrev N__law_lot : List Str := ["pot", "places", "most", "found", "turn", "place"]
theorem sc__law_lot : FnScope N__law_lot ["pot", "places", "most"] (defScope s__law_lot) := ⟨rfl, rfl, rfl, by decide +kernel, rfl, by decide +kernel, by decide +kernel⟩
def g__law_lot : MS := (sSeq (sSetM 3 (fLst fNil)) (sSeq (sFor (iR1 (fVx 2)) (tName 4) (sSeq (sSet 5 (fCl 2 m__law_draw (aP 0 (aD (fV 1) aNil)))) (sExt 3 (fIfN (fTv (fB (gIn true) (fVx 5) (fVx 3))) (fLst (fCons (fV 5) fNil)) (fLst fNil))))) (sRet (fU gTuple (fL (fUN gSortI (fVx 3)))))))
def m__law_lot : MF := mOf 6 g__law_lot
theorem ok__law_lot {P : Program} {w : World} {K : PySem.W.Frag} {mg : Str → Option Value} {base : Heap} (G : Gs K mg) : Fn P w K mg base 2 "_law_lot" ["pot", "places", "most"] (SPd K 3 m__law_lot) := by
  obtain ⟨fd, F⟩ := G.d__law_lot
  exact fn_mk F G.g__law_lot sc__law_lot (FunD.bindsN F fun _ _ _ _ _ _ us hl => match us, hl with | [_, _, _], _ => rfl) (kbind_of F fun _ _ _ _ _ _ us hl => match us, hl with | [_, _, _], _ => rfl) (fun vs H Q ⟨_, _, _, _, _, _, h, _⟩ => h) (fun cdv A outer s H vs Q hr hg h => have hu := hr.units; ⟨_, (pss_cons (ps_set (i := 3) sc__law_lot.nd rfl (by first | exact Or.inl rfl | exact Or.inr rfl) (pe_lst pa_nil)) (pss_cons (ps_for PassesOwn.never rfl (pi_range1 rfl G.b_range (pa_cons (pv 2) pa_nil)) (pg_name (i := 4) sc__law_lot.nd rfl (by first | exact Or.inl rfl | exact Or.inr rfl)) (pss_cons (ps_set (i := 5) sc__law_lot.nd rfl (by first | exact Or.inl rfl | exact Or.inr rfl) (pe_fn ((ok__law_draw G).mono (by decide)) hr hg rfl (pa_cons (pv 0) (pa_cons (pv 1) pa_nil)))) (pss_one (ps_expr (pe_bm PySem.F.plainAttrs_list PySem.F.slot_list_extend PySem.F.type_list_extend mt_extend (pv 3) (pa_cons (pe_ifExp (pt_cmpR op_notInAll (pv 5) (pv 3) (by rfl)) (pe_lst (pa_cons (pv 5) pa_nil)) (pe_lst pa_nil)) pa_nil)))))) (pss_one (ps_ret (pe_callTy call_tuple_of rfl G.b_tuple boot_tuple (pa_cons (pe_callB cr_sortedI rfl G.b_sorted boot_sorted (pa_cons (pv 3) pa_nil)) pa_nil)))))), body_ok (g := g__law_lot) (evs_seq (evs_setM (i := 3) (ev_lst eva_nil)) (evs_seq (evs_for (vs := [4]) (evi_range1 (ev_varx 2)) (evg_name (i := 4) (by decide)) (evs_seq (evs_set (i := 5) (ev_cl (evar_p (i := 0) (evar_d (ev_var 1) evar_nil)))) (evs_ext (i := 3) (ev_ifN (evt_test (EvE.x (ev_op sim_notIn (ev_varx 5) (ev_varx 3)))) (ev_lst (eva_cons (ev_var 5) eva_nil)) (ev_lst eva_nil))))) (evs_ret (ev_c1 sim_tuple (EvN.x (ev_c1N sim_sortI (ev_varx 3))))))) h⟩)
/-! #### _law_sheet -/
abbrev s__law_sheet : Stmt := top 49
abbrev N__law_sheet : List Str := ["pot", "most", "many", "places", "way", "tasks", "turn", "name", "sizes", "first", "place"]
theorem sc__law_sheet : FnScope N__law_sheet ["pot", "most", "many"] (defScope s__law_sheet) := ⟨rfl, rfl, rfl, by decide +kernel, rfl, by decide +kernel, by decide +kernel⟩
def g__law_sheet : MS := (sSeq (sPar3 3 4 5 (aD (fB gAdd (fC (.int 1)) (fCl 2 m__law_draw (aP 0 (aD (fV 1) aNil)))) (aD (fCl 2 m__law_draw (aP 0 (aD (fC (.int 4)) aNil))) (aN (fLst fNil) aNil)))) (sSeq (sFor (iR1 (fB gAdd (fC (.int 1)) (fCl 2 m__law_draw (aP 0 (aD (fV 2) aNil))))) (tName 6) (sSeq (sSet 7 (fCl 2 m__law_pick (aP 0 (aD (fL (fLst (fCons (fC (.str "")) (fCons (fC (.str "a")) (fCons (fC (.str "b")) (fCons (fC (.str "c")) (fCons (fC (.str "a2")) (fCons (fC (.str "look_at")) fNil)))))))) aNil)))) (sSeq (sSet 8 (fB gIx (fL (fLst (fCons (fTup (fCons (fB gAdd (fC (.int 1)) (fCl 2 m__law_draw (aP 0 (aD (fC (.int 2)) aNil)))) (fCons (fCl 2 m__law_draw (aP 0 (aD (fC (.int 3)) aNil))) fNil))) (fCons (fTup (fCons (fC (.int 1)) (fCons (fC (.int 1)) fNil))) (fCons (fCl 2 m__law_pick (aP 0 (aD (fL (fLst (fCons (fTup (fCons (fC (.int 1)) (fCons (fC (.int 2)) fNil))) (fCons (fTup (fCons (fC (.int 2)) (fCons (fC (.int 1)) fNil))) (fCons (fTup (fCons (fC (.int 1)) (fCons (fC (.int 1)) fNil))) fNil))))) aNil))) (fCons (fTup (fCons (fC (.int 1)) (fCons (fB gAdd (fC (.int 1)) (fCl 2 m__law_draw (aP 0 (aD (fC (.int 2)) aNil)))) fNil))) fNil)))))) (fVx 4))) (sApp 5 (fTup (fCons (fV 7) (fCons (fCl 3 m__law_lot (aP 0 (aD (fV 3) (aD (fB gIx (fVx 8) (fC (.int 0))) aNil)))) (fCons (fCl 3 m__law_lot (aP 0 (aD (fV 3) (aD (fB gIx (fVx 8) (fC (.int 1))) aNil)))) fNil)))))))) (sSeq (sSetM 9 (fLc (iR1 (fVx 3)) [10] (tName 10) bYes (fCl 2 m__law_pick (aP 0 (aD (fL (fLst (fCons (fC (.int 0)) (fCons (fC (.int 0)) (fCons (fC (.int 1)) (fCons (fC (.int 1)) (fCons (fC (.int 2)) fNil))))))) aNil))))) (sSeq (sSetIx 9 (fC (.int 0)) (fB gMax2 (fC (.int 1)) (fB gIx (fVx 9) (fC (.int 0))))) (sRet (fTup (fCons (fC (.str "sheet")) (fCons (fV 3) (fCons (fU gTuple (fVx 5)) (fCons (fU gTuple (fVx 9)) (fCons (fU gTuple (fL (fLc (iR1 (fVx 3)) [10] (tName 10) bYes (fCl 2 m__law_draw (aP 0 (aD (fC (.int 3)) aNil)))))) fNil)))))))))))
def m__law_sheet : MF := mOf 11 g__law_sheet
theorem ok__law_sheet {P : Program} {w : World} {K : PySem.W.Frag} {mg : Str → Option Value} {base : Heap} (G : Gs K mg) : Fn P w K mg base 3 "_law_sheet" ["pot", "most", "many"] (SPd K 3 m__law_sheet) := by
  obtain ⟨fd, F⟩ := G.d__law_sheet
  exact fn_mk F G.g__law_sheet sc__law_sheet (FunD.bindsN F fun _ _ _ _ _ _ us hl => match us, hl with | [_, _, _], _ => rfl) (kbind_of F fun _ _ _ _ _ _ us hl => match us, hl with | [_, _, _], _ => rfl) (fun vs H Q ⟨_, _, _, _, _, _, h, _⟩ => h) (fun cdv A outer s H vs Q hr hg h => have hu := hr.units; ⟨_, (pss_cons (ps_par3 (i := 3) (j := 4) (l := 5) rfl sc__law_sheet.nd rfl rfl rfl (by decide) (by decide) (by decide) rfl rfl rfl (pa_cons (pe_op op_addAll pe_int (pe_fn ((ok__law_draw G).mono (by decide)) hr hg rfl (pa_cons (pv 0) (pa_cons (pv 1) pa_nil)))) (pa_cons (pe_fn ((ok__law_draw G).mono (by decide)) hr hg rfl (pa_cons (pv 0) (pa_cons pe_int pa_nil))) (pa_cons (pe_lst pa_nil) pa_nil))) rfl) (pss_cons (ps_for PassesOwn.never rfl (pi_range1 rfl G.b_range (pa_cons (pe_op op_addAll pe_int (pe_fn ((ok__law_draw G).mono (by decide)) hr hg rfl (pa_cons (pv 0) (pa_cons (pv 2) pa_nil)))) pa_nil)) (pg_name (i := 6) sc__law_sheet.nd rfl (by first | exact Or.inl rfl | exact Or.inr rfl)) (pss_cons (ps_set (i := 7) sc__law_sheet.nd rfl (by first | exact Or.inl rfl | exact Or.inr rfl) (pe_fn ((ok__law_pick G).mono (by decide)) hr hg rfl (pa_cons (pv 0) (pa_cons (pe_lst (pa_cons pe_str (pa_cons pe_str (pa_cons pe_str (pa_cons pe_str (pa_cons pe_str (pa_cons pe_str pa_nil))))))) pa_nil)))) (pss_cons (ps_set (i := 8) sc__law_sheet.nd rfl (by first | exact Or.inl rfl | exact Or.inr rfl) (pe_ix ix_seq (pe_lst (pa_cons (pe_tup (pa_cons (pe_op op_addAll pe_int (pe_fn ((ok__law_draw G).mono (by decide)) hr hg rfl (pa_cons (pv 0) (pa_cons pe_int pa_nil)))) (pa_cons (pe_fn ((ok__law_draw G).mono (by decide)) hr hg rfl (pa_cons (pv 0) (pa_cons pe_int pa_nil))) pa_nil))) (pa_cons (pe_tup (pa_cons pe_int (pa_cons pe_int pa_nil))) (pa_cons (pe_fn ((ok__law_pick G).mono (by decide)) hr hg rfl (pa_cons (pv 0) (pa_cons (pe_lst (pa_cons (pe_tup (pa_cons pe_int (pa_cons pe_int pa_nil))) (pa_cons (pe_tup (pa_cons pe_int (pa_cons pe_int pa_nil))) (pa_cons (pe_tup (pa_cons pe_int (pa_cons pe_int pa_nil))) pa_nil)))) pa_nil))) (pa_cons (pe_tup (pa_cons pe_int (pa_cons (pe_op op_addAll pe_int (pe_fn ((ok__law_draw G).mono (by decide)) hr hg rfl (pa_cons (pv 0) (pa_cons pe_int pa_nil)))) pa_nil))) pa_nil))))) (pv 4) fun _ _ => rfl)) (pss_one (ps_expr (pe_bm PySem.F.plainAttrs_list PySem.F.slot_list_append PySem.F.type_list_append mt_append (pv 5) (pa_cons (pe_tup (pa_cons (pv 7) (pa_cons (pe_fn ((ok__law_lot G).mono (by decide)) hr hg rfl (pa_cons (pv 0) (pa_cons (pv 3) (pa_cons (pe_ix ix_seq (pv 8) pe_int fun _ _ => rfl) pa_nil)))) (pa_cons (pe_fn ((ok__law_lot G).mono (by decide)) hr hg rfl (pa_cons (pv 0) (pa_cons (pv 3) (pa_cons (pe_ix ix_seq (pv 8) pe_int fun _ _ => rfl) pa_nil)))) pa_nil)))) pa_nil))))))) (pss_cons (ps_setLc (own := [("place", 10)]) (i := 9) rfl sc__law_sheet.nd rfl rfl (sw_true rfl rfl rfl (by decide +kernel)) (pi_range1 rfl G.b_range (pa_cons (pv 3) pa_nil)) (show BlkOk N__law_sheet (defScope s__law_sheet) _ _ from blkOk_by (by decide +kernel)) (fun _ _ _ _ _ => (pg_name (i := 10) sc__law_sheet.nd rfl (by first | exact Or.inl rfl | exact Or.inr rfl))) (fun _ _ _ _ _ => pts_nil) (fun _ _ _ _ _ => (pe_fn ((ok__law_pick G).mono (by decide)) hr hg rfl (pa_cons (pv 0) (pa_cons (pe_lst (pa_cons pe_int (pa_cons pe_int (pa_cons pe_int (pa_cons pe_int (pa_cons pe_int pa_nil)))))) pa_nil))))) (pss_cons (ps_asg (pe_callB (call_max2 rfl) rfl G.b_max boot_max (pa_cons pe_int (pa_cons (pe_ix ix_seq (pv 9) pe_int fun _ _ => rfl) pa_nil))) (pg_sub (pv 9) pe_int set_list fun _ => rfl)) (pss_one (ps_ret (pe_tup (pa_cons pe_str (pa_cons (pv 3) (pa_cons (pe_callTy call_tuple_of rfl G.b_tuple boot_tuple (pa_cons (pv 5) pa_nil)) (pa_cons (pe_callTy call_tuple_of rfl G.b_tuple boot_tuple (pa_cons (pv 9) pa_nil)) (pa_cons (pe_callTy call_tuple_of rfl G.b_tuple boot_tuple (pa_cons (pe_lc (own := [("place", 10)]) rfl sc__law_sheet.nd (pi_range1 rfl G.b_range (pa_cons (pv 3) pa_nil)) (show BlkOk N__law_sheet (defScope s__law_sheet) _ _ from blkOk_by (by decide +kernel)) (fun _ _ _ _ _ => (pg_name (i := 10) sc__law_sheet.nd rfl (by first | exact Or.inl rfl | exact Or.inr rfl))) (fun _ _ _ _ _ => pts_nil) (fun _ _ _ _ _ => (pe_fn ((ok__law_draw G).mono (by decide)) hr hg rfl (pa_cons (pv 0) (pa_cons pe_int pa_nil))))) pa_nil)) pa_nil)))))))))))), body_ok (g := g__law_sheet) (evs_seq (evs_par3 (i := 3) (j := 4) (l := 5) (evar_d (ev_op sim_add (EvE.x (ev_int _)) (EvE.x (ev_cl (evar_p (i := 0) (evar_d (ev_var 1) evar_nil))))) (evar_d (ev_cl (evar_p (i := 0) (evar_d (ev_int _) evar_nil))) (evar_n (ev_lst eva_nil) evar_nil)))) (evs_seq (evs_for (vs := [6]) (evi_range1 (EvE.x (ev_op sim_add (EvE.x (ev_int _)) (EvE.x (ev_cl (evar_p (i := 0) (evar_d (ev_var 2) evar_nil))))))) (evg_name (i := 6) (by decide)) (evs_seq (evs_set (i := 7) (ev_cl (evar_p (i := 0) (evar_d (EvN.e (ev_lst (eva_cons (ev_str _) (eva_cons (ev_str _) (eva_cons (ev_str _) (eva_cons (ev_str _) (eva_cons (ev_str _) (eva_cons (ev_str _) eva_nil)))))))) evar_nil)))) (evs_seq (evs_set (i := 8) (ev_op sim_ix (EvN.x (ev_lst (eva_cons (ev_tup (eva_cons (ev_op sim_add (EvE.x (ev_int _)) (EvE.x (ev_cl (evar_p (i := 0) (evar_d (ev_int _) evar_nil))))) (eva_cons (ev_cl (evar_p (i := 0) (evar_d (ev_int _) evar_nil))) eva_nil))) (eva_cons (ev_tup (eva_cons (ev_int _) (eva_cons (ev_int _) eva_nil))) (eva_cons (ev_cl (evar_p (i := 0) (evar_d (EvN.e (ev_lst (eva_cons (ev_tup (eva_cons (ev_int _) (eva_cons (ev_int _) eva_nil))) (eva_cons (ev_tup (eva_cons (ev_int _) (eva_cons (ev_int _) eva_nil))) (eva_cons (ev_tup (eva_cons (ev_int _) (eva_cons (ev_int _) eva_nil))) eva_nil))))) evar_nil))) (eva_cons (ev_tup (eva_cons (ev_int _) (eva_cons (ev_op sim_add (EvE.x (ev_int _)) (EvE.x (ev_cl (evar_p (i := 0) (evar_d (ev_int _) evar_nil))))) eva_nil))) eva_nil)))))) (ev_varx 4))) (evs_app (i := 5) (ev_tup (eva_cons (ev_var 7) (eva_cons (ev_cl (evar_p (i := 0) (evar_d (ev_var 3) (evar_d (ev_op sim_ix (ev_varx 8) (EvE.x (ev_int _))) evar_nil)))) (eva_cons (ev_cl (evar_p (i := 0) (evar_d (ev_var 3) (evar_d (ev_op sim_ix (ev_varx 8) (EvE.x (ev_int _))) evar_nil)))) eva_nil)))))))) (evs_seq (evs_setM (i := 9) (ev_lc (own := [10]) (evi_range1 (ev_varx 3)) (evg_name (i := 10) (by decide)) evt_yes (ev_cl (evar_p (i := 0) (evar_d (EvN.e (ev_lst (eva_cons (ev_int _) (eva_cons (ev_int _) (eva_cons (ev_int _) (eva_cons (ev_int _) (eva_cons (ev_int _) eva_nil))))))) evar_nil))))) (evs_seq (evs_setIx (i := 9) (ev_c2 sim_max2 (EvE.x (ev_int _)) (EvE.x (ev_op sim_ix (ev_varx 9) (EvE.x (ev_int _))))) (EvE.x (ev_int _))) (evs_ret (ev_tup (eva_cons (ev_str _) (eva_cons (ev_var 3) (eva_cons (ev_c1 sim_tuple (ev_varx 5)) (eva_cons (ev_c1 sim_tuple (ev_varx 9)) (eva_cons (ev_c1 sim_tuple (EvN.x (ev_lc (own := [10]) (evi_range1 (ev_varx 3)) (evg_name (i := 10) (by decide)) evt_yes (ev_cl (evar_p (i := 0) (evar_d (ev_int _) evar_nil)))))) eva_nil))))))))))) h⟩)
/-! #### _law_run -/
abbrev s__law_run : Stmt := top 54
abbrev N__law_run : List Str := ["pot", "sheet", "standing", "most", "here", "found", "turn", "some", "task"]
theorem sc__law_run : FnScope N__law_run ["pot", "sheet", "standing", "most"] (defScope s__law_run) := ⟨rfl, rfl, rfl, by decide +kernel, rfl, by decide +kernel, by decide +kernel⟩
def g__law_run : MR := (rSeq (sUnpM [4, 5] (aD (fV 2) (aN (fLst fNil) aNil))) (rSeq (sFor (iR1 (fVx 3)) (tName 6) (sSeq (sSet 7 (fL (fLc (iR1 (fU gLen (fB gIx (fVx 1) (fC (.int 2))))) [8] (tName 8) (fNotT (fTv (fIsi "str" (fCl 3 m__law_behind (aD (fV 1) (aD (fV 4) (aD (fV 8) aNil))))))) (fV 8)))) (sSeq (sIf (fTv (fB (gEq false) (fVx 7) (fL (fLst fNil)))) sBrk sNil) (sSeq (sApp 5 (fCl 2 m__law_pick (aP 0 (aD (fV 7) aNil)))) (sSet 4 (fCl 3 m__law_behind (aD (fV 1) (aD (fV 4) (aD (fB gIx (fVx 5) (fU gNeg (fC (.int 1)))) aNil))))))))) (rVar 5)))
def m__law_run : MFN := mOfR 9 g__law_run
theorem ok__law_run {P : Program} {w : World} {K : PySem.W.Frag} {mg : Str → Option Value} {base : Heap} (G : Gs K mg) : Fn P w K mg base 3 "_law_run" ["pot", "sheet", "standing", "most"] (SPn K 4 m__law_run) := by
  obtain ⟨fd, F⟩ := G.d__law_run
  exact fn_mk F G.g__law_run sc__law_run (FunD.bindsN F fun _ _ _ _ _ _ us hl => match us, hl with | [_, _, _, _], _ => rfl) (kbind_of F fun _ _ _ _ _ _ us hl => match us, hl with | [_, _, _, _], _ => rfl) (fun vs H Q ⟨_, _, _, _, _, _, h, _⟩ => h) (fun cdv A outer s H vs Q hr hg h => have hu := hr.units; ⟨_, (pss_cons (ps_asg (pe_tup (pa_cons (pv 2) (pa_cons (pe_lst pa_nil) pa_nil))) (pg_tup rfl (pgs_cons (pg_name (i := 4) sc__law_run.nd rfl (by first | exact Or.inl rfl | exact Or.inr rfl)) (pgs_cons (pg_name (i := 5) sc__law_run.nd rfl (by first | exact Or.inl rfl | exact Or.inr rfl)) pgs_nil)))) (pss_cons (ps_for PassesOwn.never rfl (pi_range1 rfl G.b_range (pa_cons (pv 3) pa_nil)) (pg_name (i := 6) sc__law_run.nd rfl (by first | exact Or.inl rfl | exact Or.inr rfl)) (pss_cons (ps_setLc (own := [("task", 8)]) (i := 7) rfl sc__law_run.nd rfl rfl (sw_true rfl rfl rfl (by decide +kernel)) (pi_range1 rfl G.b_range (pa_cons (pe_callB call_len rfl G.b_len boot_len (pa_cons (pe_ix ix_seq (pv 1) pe_int fun _ _ => rfl) pa_nil)) pa_nil)) (show BlkOk N__law_run (defScope s__law_run) _ _ from blkOk_by (by decide +kernel)) (fun _ _ _ _ _ => (pg_name (i := 8) sc__law_run.nd rfl (by first | exact Or.inl rfl | exact Or.inr rfl))) (fun _ _ _ _ _ => (pts_one (pt_not (pt_val (pe_callB call_isi rfl G.b_isinstance boot_isinstance (pa_cons (pe_fn ((ok__law_behind G).mono (by decide)) hr hg rfl (pa_cons (pv 1) (pa_cons (pv 4) (pa_cons (pv 8) pa_nil)))) (pa_cons (pe_ty rfl G.b_str boot_str) pa_nil))))))) (fun _ _ _ _ _ => (pv 8))) (pss_cons (ps_if (pt_cmpR (op_eqY hu) (pv 7) (pe_lst pa_nil) (nomark _)) (pss_one ps_break) pss_nil) (pss_cons (ps_expr (pe_bm PySem.F.plainAttrs_list PySem.F.slot_list_append PySem.F.type_list_append mt_append (pv 5) (pa_cons (pe_fn ((ok__law_pick G).mono (by decide)) hr hg rfl (pa_cons (pv 0) (pa_cons (pv 7) pa_nil))) pa_nil))) (pss_one (ps_set (i := 4) sc__law_run.nd rfl (by first | exact Or.inl rfl | exact Or.inr rfl) (pe_fn ((ok__law_behind G).mono (by decide)) hr hg rfl (pa_cons (pv 1) (pa_cons (pv 4) (pa_cons (pe_ix ix_seq (pv 5) (pe_un un_neg pe_int) fun _ _ => rfl) pa_nil)))))))))) (pss_one (ps_ret (pv 5))))), body_okR (g := g__law_run) (evr_seq (evs_unpM [4, 5] rfl (evar_d (ev_var 2) (evar_n (ev_lst eva_nil) evar_nil))) (evr_seq (evs_for (vs := [6]) (evi_range1 (ev_varx 3)) (evg_name (i := 6) (by decide)) (evs_seq (evs_set (i := 7) (EvN.e (ev_lc (own := [8]) (evi_range1 (EvE.x (ev_c1 sim_len (EvE.x (ev_op sim_ix (ev_varx 1) (EvE.x (ev_int _))))))) (evg_name (i := 8) (by decide)) (evt_not (evt_val (EvE.x (ev_isi (EvE.x (ev_cl (evar_d (ev_var 1) (evar_d (ev_var 4) (evar_d (ev_var 8) evar_nil))))))))) (ev_var 8)))) (evs_seq (evs_if (evt_test (EvE.x (ev_op (sim_eq false) (ev_varx 7) (EvN.x (ev_lst eva_nil))))) evs_brk evs_nil) (evs_seq (evs_app (i := 5) (ev_cl (evar_p (i := 0) (evar_d (ev_var 7) evar_nil)))) (evs_set (i := 4) (ev_cl (evar_d (ev_var 1) (evar_d (ev_var 4) (evar_d (ev_op sim_ix (ev_varx 5) (EvE.x (ev_un sim_neg (EvE.x (ev_int _))))) evar_nil))))))))) (evr_var (i := 5)))) h⟩)
/-! #### can_be_done -/
abbrev s_can_be_done : Stmt := top 38
abbrev N_can_be_done : List Str := ["sheet", "standing", "task"]
theorem sc_can_be_done : FnScope N_can_be_done ["sheet", "standing"] (defScope s_can_be_done) := ⟨rfl, rfl, rfl, by decide +kernel, rfl, by decide +kernel, by decide +kernel⟩
theorem ok_can_be_done {P : Program} {w : World} {K : PySem.W.Frag} {mg : Str → Option Value} {base : Heap} (G : Gs K mg) : Fn P w K mg base 7 "can_be_done" ["sheet", "standing"] (SPd K 2 m_can_be_done) := by
  obtain ⟨fd, F⟩ := G.d_can_be_done
  exact fn_mk F G.g_can_be_done sc_can_be_done (FunD.bindsN F fun _ _ _ _ _ _ us hl => match us, hl with | [_, _], _ => rfl) (kbind_of F fun _ _ _ _ _ _ us hl => match us, hl with | [_, _], _ => rfl) (fun vs H Q ⟨_, _, _, _, _, _, h, _⟩ => h) (fun cdv A outer s H vs Q hr hg h => have hu := hr.units; ⟨_, (pss_cons (ps_expr (pe_fn ((ok_want_sheet G).mono (by decide)) hr hg rfl (pa_cons (pv 0) pa_nil))) (pss_cons (ps_expr (pe_fn ((ok_want_standing G).mono (by decide)) hr hg rfl (pa_cons (pv 0) (pa_cons (pv 1) pa_nil)))) (pss_one (ps_ret (pe_lc (own := [("task", 2)]) rfl sc_can_be_done.nd (pi_range1 rfl G.b_range (pa_cons (pe_callB call_len rfl G.b_len boot_len (pa_cons (pe_ix ix_seq (pv 0) pe_int fun _ _ => rfl) pa_nil)) pa_nil)) (show BlkOk N_can_be_done (defScope s_can_be_done) _ _ from blkOk_by (by decide +kernel)) (fun _ _ _ _ _ => (pg_name (i := 2) sc_can_be_done.nd rfl (by first | exact Or.inl rfl | exact Or.inr rfl))) (fun _ _ _ _ _ => (pts_one (pt_val (pe_fn ((ok_can_do G).mono (by decide)) hr hg rfl (pa_cons (pv 0) (pa_cons (pv 1) (pa_cons (pv 2) pa_nil))))))) (fun _ _ _ _ _ => (pv 2))))))), body_ok (g := g_can_be_done) (evs_seq (evs_drop (EvE.x (ev_cl (evar_d (ev_var 0) evar_nil)))) (evs_seq (evs_drop (EvE.x (ev_cl (evar_d (ev_var 0) (evar_d (ev_var 1) evar_nil))))) (evs_ret (EvN.e (ev_lc (own := [2]) (evi_range1 (EvE.x (ev_c1 sim_len (EvE.x (ev_op sim_ix (ev_varx 0) (EvE.x (ev_int _))))))) (evg_name (i := 2) (by decide)) (evt_val (EvE.x (ev_cl (evar_d (ev_var 0) (evar_d (ev_var 1) (evar_d (ev_var 2) evar_nil)))))) (ev_var 2)))))) h⟩)
/-! #### want_task -/
abbrev s_want_task : Stmt := top 27
abbrev N_want_task : List Str := ["sheet", "task"]
theorem sc_want_task : FnScope N_want_task ["sheet", "task"] (defScope s_want_task) := ⟨rfl, rfl, rfl, by decide +kernel, rfl, by decide +kernel, by decide +kernel⟩
theorem ok_want_task {P : Program} {w : World} {K : PySem.W.Frag} {mg : Str → Option Value} {base : Heap} (G : Gs K mg) : Fn P w K mg base 3 "want_task" ["sheet", "task"] (SPd K 2 m_want_task) := by
  obtain ⟨fd, F⟩ := G.d_want_task
  exact fn_mk F G.g_want_task sc_want_task (FunD.bindsN F fun _ _ _ _ _ _ us hl => match us, hl with | [_, _], _ => rfl) (kbind_of F fun _ _ _ _ _ _ us hl => match us, hl with | [_, _], _ => rfl) (fun vs H Q ⟨_, _, _, _, _, _, h, _⟩ => h) (fun cdv A outer s H vs Q hr hg h => have hu := hr.units; ⟨_, (pss_one (ps_if (pt_not (pt_val (pe_fn ((ok_is_within G).mono (by decide)) hr hg rfl (pa_cons (pv 1) (pa_cons pe_int (pa_cons (pe_op op_subAll (pe_callB call_len rfl G.b_len boot_len (pa_cons (pe_ix ix_seq (pv 0) pe_int fun _ _ => rfl) pa_nil)) pe_int) pa_nil)))))) (pss_one ps_never) pss_nil)), body_ok (g := g_want_task) (evs_if (evt_not (evt_val (EvE.x (ev_cl (evar_d (ev_var 1) (evar_d (ev_int _) (evar_d (ev_op sim_sub (EvE.x (ev_c1 sim_len (EvE.x (ev_op sim_ix (ev_varx 0) (EvE.x (ev_int _)))))) (EvE.x (ev_int _))) evar_nil))))))) evs_never evs_nil) h⟩)
/-! #### behind -/
abbrev s_behind : Stmt := top 39
abbrev N_behind : List Str := ["sheet", "standing", "task"]
theorem sc_behind : FnScope N_behind ["sheet", "standing", "task"] (defScope s_behind) := ⟨rfl, rfl, rfl, by decide +kernel, rfl, by decide +kernel, by decide +kernel⟩
theorem ok_behind {P : Program} {w : World} {K : PySem.W.Frag} {mg : Str → Option Value} {base : Heap} (G : Gs K mg) : Fn P w K mg base 7 "behind" ["sheet", "standing", "task"] (SPd K 3 m_behind) := by
  obtain ⟨fd, F⟩ := G.d_behind
  exact fn_mk F G.g_behind sc_behind (FunD.bindsN F fun _ _ _ _ _ _ us hl => match us, hl with | [_, _, _], _ => rfl) (kbind_of F fun _ _ _ _ _ _ us hl => match us, hl with | [_, _, _], _ => rfl) (fun vs H Q ⟨_, _, _, _, _, _, h, _⟩ => h) (fun cdv A outer s H vs Q hr hg h => have hu := hr.units; ⟨_, (pss_cons (ps_expr (pe_fn ((ok_want_sheet G).mono (by decide)) hr hg rfl (pa_cons (pv 0) pa_nil))) (pss_cons (ps_expr (pe_fn ((ok_want_standing G).mono (by decide)) hr hg rfl (pa_cons (pv 0) (pa_cons (pv 1) pa_nil)))) (pss_cons (ps_expr (pe_fn ((ok_want_task G).mono (by decide)) hr hg rfl (pa_cons (pv 0) (pa_cons (pv 2) pa_nil)))) (pss_one (ps_ret (pe_fn ((ok_led G).mono (by decide)) hr hg rfl (pa_cons (pv 0) (pa_cons (pv 1) (pa_cons (pe_lst (pa_cons (pv 2) pa_nil)) pa_nil))))))))), body_ok (g := g_behind) (evs_seq (evs_drop (EvE.x (ev_cl (evar_d (ev_var 0) evar_nil)))) (evs_seq (evs_drop (EvE.x (ev_cl (evar_d (ev_var 0) (evar_d (ev_var 1) evar_nil))))) (evs_seq (evs_drop (EvE.x (ev_cl (evar_d (ev_var 0) (evar_d (ev_var 2) evar_nil))))) (evs_ret (ev_cl (evar_d (ev_var 0) (evar_d (ev_var 1) (evar_d (EvN.e (ev_lst (eva_cons (ev_var 2) eva_nil))) evar_nil)))))))) h⟩)
/-! #### _law_steps_right -/
abbrev s__law_steps_right : Stmt := top 52
abbrev N__law_steps_right : List Str := ["sheet", "standing", "due", "task", "late"]
theorem sc__law_steps_right : FnScope N__law_steps_right ["sheet", "standing"] (defScope s__law_steps_right) := ⟨rfl, rfl, rfl, by decide +kernel, rfl, by decide +kernel, by decide +kernel⟩
def g__law_steps_right : MS := (sSeq (sSet 2 (fL (fLc (iR1 (fU gLen (fB gIx (fVx 0) (fC (.int 2))))) [3] (tName 3) (fTv (fB (gEq true) (fCl 3 m__law_behind (aD (fV 0) (aD (fV 1) (aD (fV 3) aNil)))) (fC (.str "not")))) (fV 3)))) (sSeq (sIf (fTv (fB (gEq true) (fU gRepr (fL (fLst (fCons (fCl 2 m_can_be_done (aD (fV 0) (aD (fV 1) aNil))) (fCons (fClP [1, 0] m_can_be_done (aD (fV 1) (aD (fV 0) aNil))) fNil))))) (fU gRepr (fL (fLst (fCons (fV 2) (fCons (fV 2) fNil))))))) (sRet (fC (.bool false))) sNil) (sSeq (sFor (iR1 (fU gLen (fB gIx (fVx 0) (fC (.int 2))))) (tName 3) (sSeq (sSet 4 (fCl 3 m__law_behind (aD (fV 0) (aD (fV 1) (aD (fV 3) aNil))))) (sSeq (sSet 4 (fIf (fTv (fIsi "str" (fVx 4))) (fC .none) (fV 4))) (sIf (fTv (fB (gEq true) (fU gRepr (fL (fLst (fCons (fCl 3 m_behind (aD (fV 0) (aD (fV 1) (aD (fV 3) aNil)))) (fCons (fClP [2, 1, 0] m_behind (aD (fV 3) (aD (fV 1) (aD (fV 0) aNil)))) fNil))))) (fU gRepr (fL (fLst (fCons (fV 4) (fCons (fV 4) fNil))))))) (sRet (fC (.bool false))) sNil)))) (sRet (fC (.bool true))))))
def m__law_steps_right : MF := mOf 5 g__law_steps_right
theorem ok__law_steps_right {P : Program} {w : World} {K : PySem.W.Frag} {mg : Str → Option Value} {base : Heap} (G : Gs K mg) : Fn P w K mg base 8 "_law_steps_right" ["sheet", "standing"] (SPd K 2 m__law_steps_right) := by
  obtain ⟨fd, F⟩ := G.d__law_steps_right
  exact fn_mk F G.g__law_steps_right sc__law_steps_right (FunD.bindsN F fun _ _ _ _ _ _ us hl => match us, hl with | [_, _], _ => rfl) (kbind_of F fun _ _ _ _ _ _ us hl => match us, hl with | [_, _], _ => rfl) (fun vs H Q ⟨_, _, _, _, _, _, h, _⟩ => h) (fun cdv A outer s H vs Q hr hg h => have hu := hr.units; ⟨_, (pss_cons (ps_setLc (own := [("task", 3)]) (i := 2) rfl sc__law_steps_right.nd rfl rfl (sw_true rfl rfl rfl (by decide +kernel)) (pi_range1 rfl G.b_range (pa_cons (pe_callB call_len rfl G.b_len boot_len (pa_cons (pe_ix ix_seq (pv 0) pe_int fun _ _ => rfl) pa_nil)) pa_nil)) (show BlkOk N__law_steps_right (defScope s__law_steps_right) _ _ from blkOk_by (by decide +kernel)) (fun _ _ _ _ _ => (pg_name (i := 3) sc__law_steps_right.nd rfl (by first | exact Or.inl rfl | exact Or.inr rfl))) (fun _ _ _ _ _ => (pts_one (pt_cmpR (op_neY hu) (pe_fn ((ok__law_behind G).mono (by decide)) hr hg rfl (pa_cons (pv 0) (pa_cons (pv 1) (pa_cons (pv 3) pa_nil)))) pe_str (nomark _)))) (fun _ _ _ _ _ => (pv 3))) (pss_cons (ps_if (pt_cmpR (op_neY hu) (pe_callB (call_reprX hg hu) rfl G.b_repr boot_repr (pa_cons (pe_lst (pa_cons (pe_fn ((ok_can_be_done G).mono (by decide)) hr hg rfl (pa_cons (pv 0) (pa_cons (pv 1) pa_nil))) (pa_cons (pe_fnKP (ks := ["standing", "sheet"]) (ix := [1, 0]) ((ok_can_be_done G).mono (by decide)) G.d_can_be_done (fun _ _ _ _ _ _ us hl => match us, hl with | [_, _], _ => rfl) rfl hr hg rfl (pk_cons (pv 1) (pk_cons (pv 0) pk_nil))) pa_nil))) pa_nil)) (pe_callB (call_reprX hg hu) rfl G.b_repr boot_repr (pa_cons (pe_lst (pa_cons (pv 2) (pa_cons (pv 2) pa_nil))) pa_nil)) (nomark _)) (pss_one (ps_ret pe_bl)) pss_nil) (pss_cons (ps_for PassesOwn.never rfl (pi_range1 rfl G.b_range (pa_cons (pe_callB call_len rfl G.b_len boot_len (pa_cons (pe_ix ix_seq (pv 0) pe_int fun _ _ => rfl) pa_nil)) pa_nil)) (pg_name (i := 3) sc__law_steps_right.nd rfl (by first | exact Or.inl rfl | exact Or.inr rfl)) (pss_cons (ps_set (i := 4) sc__law_steps_right.nd rfl (by first | exact Or.inl rfl | exact Or.inr rfl) (pe_fn ((ok__law_behind G).mono (by decide)) hr hg rfl (pa_cons (pv 0) (pa_cons (pv 1) (pa_cons (pv 3) pa_nil))))) (pss_cons (ps_set (i := 4) sc__law_steps_right.nd rfl (by first | exact Or.inl rfl | exact Or.inr rfl) (pe_ifExp (pt_val (pe_callB call_isi rfl G.b_isinstance boot_isinstance (pa_cons (pv 4) (pa_cons (pe_ty rfl G.b_str boot_str) pa_nil)))) pe_non (pv 4))) (pss_one (ps_if (pt_cmpR (op_neY hu) (pe_callB (call_reprX hg hu) rfl G.b_repr boot_repr (pa_cons (pe_lst (pa_cons (pe_fn ((ok_behind G).mono (by decide)) hr hg rfl (pa_cons (pv 0) (pa_cons (pv 1) (pa_cons (pv 3) pa_nil)))) (pa_cons (pe_fnKP (ks := ["task", "standing", "sheet"]) (ix := [2, 1, 0]) ((ok_behind G).mono (by decide)) G.d_behind (fun _ _ _ _ _ _ us hl => match us, hl with | [_, _, _], _ => rfl) rfl hr hg rfl (pk_cons (pv 3) (pk_cons (pv 1) (pk_cons (pv 0) pk_nil)))) pa_nil))) pa_nil)) (pe_callB (call_reprX hg hu) rfl G.b_repr boot_repr (pa_cons (pe_lst (pa_cons (pv 4) (pa_cons (pv 4) pa_nil))) pa_nil)) (nomark _)) (pss_one (ps_ret pe_bl)) pss_nil))))) (pss_one (ps_ret pe_bl))))), body_ok (g := g__law_steps_right) (evs_seq (evs_set (i := 2) (EvN.e (ev_lc (own := [3]) (evi_range1 (EvE.x (ev_c1 sim_len (EvE.x (ev_op sim_ix (ev_varx 0) (EvE.x (ev_int _))))))) (evg_name (i := 3) (by decide)) (evt_test (EvE.x (ev_op (sim_eq true) (EvE.x (ev_cl (evar_d (ev_var 0) (evar_d (ev_var 1) (evar_d (ev_var 3) evar_nil))))) (EvE.x (ev_str _))))) (ev_var 3)))) (evs_seq (evs_if (evt_test (EvE.x (ev_op (sim_eq true) (EvE.x (ev_c1 sim_repr (EvN.x (ev_lst (eva_cons (ev_cl (evar_d (ev_var 0) (evar_d (ev_var 1) evar_nil))) (eva_cons (ev_clP (ix := [1, 0]) (evar_d (ev_var 1) (evar_d (ev_var 0) evar_nil))) eva_nil)))))) (EvE.x (ev_c1 sim_repr (EvN.x (ev_lst (eva_cons (ev_var 2) (eva_cons (ev_var 2) eva_nil))))))))) (evs_ret (ev_bl _)) evs_nil) (evs_seq (evs_for (vs := [3]) (evi_range1 (EvE.x (ev_c1 sim_len (EvE.x (ev_op sim_ix (ev_varx 0) (EvE.x (ev_int _))))))) (evg_name (i := 3) (by decide)) (evs_seq (evs_set (i := 4) (ev_cl (evar_d (ev_var 0) (evar_d (ev_var 1) (evar_d (ev_var 3) evar_nil))))) (evs_seq (evs_set (i := 4) (ev_if (evt_val (EvE.x (ev_isi (ev_varx 4)))) ev_non (ev_var 4))) (evs_if (evt_test (EvE.x (ev_op (sim_eq true) (EvE.x (ev_c1 sim_repr (EvN.x (ev_lst (eva_cons (ev_cl (evar_d (ev_var 0) (evar_d (ev_var 1) (evar_d (ev_var 3) evar_nil)))) (eva_cons (ev_clP (ix := [2, 1, 0]) (evar_d (ev_var 3) (evar_d (ev_var 1) (evar_d (ev_var 0) evar_nil)))) eva_nil)))))) (EvE.x (ev_c1 sim_repr (EvN.x (ev_lst (eva_cons (ev_var 4) (eva_cons (ev_var 4) eva_nil))))))))) (evs_ret (ev_bl _)) evs_nil)))) (evs_ret (ev_bl _))))) h⟩)
/-! #### _law_right -/
abbrev s__law_right : Stmt := top 55
abbrev N__law_right : List Str := ["pot", "sheet", "tasks", "places", "high", "standing", "run", "at", "some", "one", "ended", "place", "turn"]
theorem sc__law_right : FnScope N__law_right ["pot"] (defScope s__law_right) := ⟨rfl, rfl, rfl, by decide +kernel, rfl, by decide +kernel, by decide +kernel⟩
def g__law_right : MS := (sSeq (sSet 1 (fCl 3 m__law_sheet (aP 0 (aD (fCl 2 m__law_pick (aP 0 (aD (fL (fLst (fCons (fC (.int 3)) (fCons (fC (.int 5)) (fCons (fC (.int 8)) fNil))))) aNil))) (aD (fCl 2 m__law_pick (aP 0 (aD (fL (fLst (fCons (fC (.int 3)) (fCons (fC (.int 8)) fNil)))) aNil))) aNil))))) (sSeq (sUnp (tTupG (tsCons (tName 2) (tsCons (tName 3) tsNil)) 2) (fTup (fCons (fU gLen (fB gIx (fVx 1) (fC (.int 2)))) (fCons (fB gIx (fVx 1) (fC (.int 1))) fNil)))) (sSeq (sSet 4 (fU gTuple (fL (fLc (iR1 (fVx 3)) [11] (tName 11) bYes (fCl 2 m__law_pick (aP 0 (aD (fL (fLst (fCons (fC (.int 9)) (fCons (fC (.int 8)) (fCons (fC (.int 1)) (fCons (fC (.int 0)) fNil)))))) aNil))))))) (sSeq (sFor (iL (fL (fLst (fCons (fB gIx (fVx 1) (fC (.int 3))) (fCons (fV 4) (fCons (fU gTuple (fL (fLc (iR1 (fVx 3)) [11] (tName 11) bYes (fCl 2 m__law_draw (aP 0 (aD (fC (.int 4)) aNil)))))) fNil)))))) (tName 5) (sSeq (sIf (fNotT (fTv (fCl 2 m__law_steps_right (aD (fV 1) (aD (fV 5) aNil))))) (sRet (fC (.bool false))) sNil) (sSeq (sSet 6 (fL (fClN 4 m__law_run (aP 0 (aD (fV 1) (aD (fV 5) (aD (fCl 2 m__law_pick (aP 0 (aD (fL (fLst (fCons (fC (.int 3)) (fCons (fC (.int 8)) (fCons (fC (.int 30)) fNil))))) aNil))) aNil))))))) (sSeq (sSet 7 (fCl 2 m__law_draw (aP 0 (aD (fB gAdd (fU gLen (fVx 6)) (fC (.int 1))) aNil)))) (sSeq (sSet 8 (fL (fLst (fCons (fV 6) (fCons (fL (fBN gCatL (fL (fSlL (fVx 6) oNone (oSome (fVx 7)))) (fL (fSlL (fVx 6) (oSome (fB gAdd (fVx 7) (fC (.int 1)))) oNone)))) (fCons (fL (fBN gCatL (fL (fBN gCatL (fL (fSlL (fVx 6) oNone (oSome (fVx 7)))) (fL (fLst (fCons (fCl 2 m__law_draw (aP 0 (aD (fV 2) aNil))) fNil))))) (fL (fSlL (fVx 6) (oSome (fVx 7)) oNone)))) (fCons (fL (fBN gCatL (fVx 6) (fL (fLst (fCons (fCl 2 m__law_draw (aP 0 (aD (fV 2) aNil))) fNil))))) (fCons (fL (fRevL (fVx 6))) (fCons (fL (fLst fNil)) fNil))))))))) (sSeq (sSet 8 (fL (fBN gCatL (fVx 8) (fL (fLst (fCons (fL (fBN gCatL (fVx 6) (fVx 6))) (fCons (fL (fLc (iR1 (fC (.int 6))) [12] (tName 12) bYes (fCl 2 m__law_draw (aP 0 (aD (fV 2) aNil))))) (fCons (fL (fRepL (fLst (fCons (fCl 2 m__law_draw (aP 0 (aD (fV 2) aNil))) fNil)) (fC (.int 12)))) fNil)))))))) (sFor (iL (fV 8)) (tName 9) (sIf (fNotT (fTv (fCl 3 m__law_run_right (aD (fV 1) (aD (fV 5) (aD (fV 9) aNil)))))) (sRet (fC (.bool false))) sNil)))))))) (sSeq (sSet 6 (fL (fClN 4 m__law_run (aP 0 (aD (fV 1) (aD (fB gIx (fVx 1) (fC (.int 3))) (aD (fC (.int 9)) aNil))))))) (sSeq (sSet 10 (fB gAdd (fSlA (fVx 1) oNone (oSome (fC (.int 4)))) (fTup (fCons (fB gIx (fCl 3 m__law_gone (aD (fV 1) (aD (fB gIx (fVx 1) (fC (.int 3))) (aD (fV 6) aNil)))) (fC (.int 1))) fNil)))) (sRet (fAndV (fB (gIsB false) (fCl 2 m_is_whole_run (aD (fV 10) (aD (fV 6) aNil))) (fC (.bool true))) (fCl 3 m__law_run_right (aD (fV 10) (aD (fB gIx (fVx 10) (fC (.int 3))) (aD (fV 6) aNil))))))))))))
def m__law_right : MF := mOf 13 g__law_right
theorem ok__law_right {P : Program} {w : World} {K : PySem.W.Frag} {mg : Str → Option Value} {base : Heap} (G : Gs K mg) : Fn P w K mg base 9 "_law_right" ["pot"] (SPd K 1 m__law_right) := by
  obtain ⟨fd, F⟩ := G.d__law_right
  exact fn_mk F G.g__law_right sc__law_right (FunD.bindsN F fun _ _ _ _ _ _ us hl => match us, hl with | [_], _ => rfl) (kbind_of F fun _ _ _ _ _ _ us hl => match us, hl with | [_], _ => rfl) (fun vs H Q ⟨_, _, _, _, _, _, h, _⟩ => h) (fun cdv A outer s H vs Q hr hg h => have hu := hr.units; ⟨_, (pss_cons (ps_set (i := 1) sc__law_right.nd rfl (by first | exact Or.inl rfl | exact Or.inr rfl) (pe_fn ((ok__law_sheet G).mono (by decide)) hr hg rfl (pa_cons (pv 0) (pa_cons (pe_fn ((ok__law_pick G).mono (by decide)) hr hg rfl (pa_cons (pv 0) (pa_cons (pe_lst (pa_cons pe_int (pa_cons pe_int (pa_cons pe_int pa_nil)))) pa_nil))) (pa_cons (pe_fn ((ok__law_pick G).mono (by decide)) hr hg rfl (pa_cons (pv 0) (pa_cons (pe_lst (pa_cons pe_int (pa_cons pe_int pa_nil))) pa_nil))) pa_nil))))) (pss_cons (ps_asg (pe_tup (pa_cons (pe_callB call_len rfl G.b_len boot_len (pa_cons (pe_ix ix_seq (pv 1) pe_int fun _ _ => rfl) pa_nil)) (pa_cons (pe_ix ix_seq (pv 1) pe_int fun _ _ => rfl) pa_nil))) (pg_tup rfl (pgs_cons (pg_name (i := 2) sc__law_right.nd rfl (by first | exact Or.inl rfl | exact Or.inr rfl)) (pgs_cons (pg_name (i := 3) sc__law_right.nd rfl (by first | exact Or.inl rfl | exact Or.inr rfl)) pgs_nil)))) (pss_cons (ps_set (i := 4) sc__law_right.nd rfl (by first | exact Or.inl rfl | exact Or.inr rfl) (pe_callTy call_tuple_of rfl G.b_tuple boot_tuple (pa_cons (pe_lc (own := [("place", 11)]) rfl sc__law_right.nd (pi_range1 rfl G.b_range (pa_cons (pv 3) pa_nil)) (show BlkOk N__law_right (defScope s__law_right) _ _ from blkOk_by (by decide +kernel)) (fun _ _ _ _ _ => (pg_name (i := 11) sc__law_right.nd rfl (by first | exact Or.inl rfl | exact Or.inr rfl))) (fun _ _ _ _ _ => pts_nil) (fun _ _ _ _ _ => (pe_fn ((ok__law_pick G).mono (by decide)) hr hg rfl (pa_cons (pv 0) (pa_cons (pe_lst (pa_cons pe_int (pa_cons pe_int (pa_cons pe_int (pa_cons pe_int pa_nil))))) pa_nil))))) pa_nil))) (pss_cons (ps_for PassesOwn.never rfl (pi_list (pe_lst (pa_cons (pe_ix ix_seq (pv 1) pe_int fun _ _ => rfl) (pa_cons (pv 4) (pa_cons (pe_callTy call_tuple_of rfl G.b_tuple boot_tuple (pa_cons (pe_lc (own := [("place", 11)]) rfl sc__law_right.nd (pi_range1 rfl G.b_range (pa_cons (pv 3) pa_nil)) (show BlkOk N__law_right (defScope s__law_right) _ _ from blkOk_by (by decide +kernel)) (fun _ _ _ _ _ => (pg_name (i := 11) sc__law_right.nd rfl (by first | exact Or.inl rfl | exact Or.inr rfl))) (fun _ _ _ _ _ => pts_nil) (fun _ _ _ _ _ => (pe_fn ((ok__law_draw G).mono (by decide)) hr hg rfl (pa_cons (pv 0) (pa_cons pe_int pa_nil))))) pa_nil)) pa_nil))))) (pg_name (i := 5) sc__law_right.nd rfl (by first | exact Or.inl rfl | exact Or.inr rfl)) (pss_cons (ps_if (pt_not (pt_val (pe_fn ((ok__law_steps_right G).mono (by decide)) hr hg rfl (pa_cons (pv 1) (pa_cons (pv 5) pa_nil))))) (pss_one (ps_ret pe_bl)) pss_nil) (pss_cons (ps_set (i := 6) sc__law_right.nd rfl (by first | exact Or.inl rfl | exact Or.inr rfl) (pe_fn ((ok__law_run G).mono (by decide)) hr hg rfl (pa_cons (pv 0) (pa_cons (pv 1) (pa_cons (pv 5) (pa_cons (pe_fn ((ok__law_pick G).mono (by decide)) hr hg rfl (pa_cons (pv 0) (pa_cons (pe_lst (pa_cons pe_int (pa_cons pe_int (pa_cons pe_int pa_nil)))) pa_nil))) pa_nil)))))) (pss_cons (ps_set (i := 7) sc__law_right.nd rfl (by first | exact Or.inl rfl | exact Or.inr rfl) (pe_fn ((ok__law_draw G).mono (by decide)) hr hg rfl (pa_cons (pv 0) (pa_cons (pe_op op_addAll (pe_callB call_len rfl G.b_len boot_len (pa_cons (pv 6) pa_nil)) pe_int) pa_nil)))) (pss_cons (ps_set (i := 8) sc__law_right.nd rfl (by first | exact Or.inl rfl | exact Or.inr rfl) (pe_lst (pa_cons (pv 6) (pa_cons (pe_op op_catL (pe_slice sl_list (pv 6) po_none (po_some (pv 7))) (pe_slice sl_list (pv 6) (po_some (pe_op op_addAll (pv 7) pe_int)) po_none)) (pa_cons (pe_op op_catL (pe_op op_catL (pe_slice sl_list (pv 6) po_none (po_some (pv 7))) (pe_lst (pa_cons (pe_fn ((ok__law_draw G).mono (by decide)) hr hg rfl (pa_cons (pv 0) (pa_cons (pv 2) pa_nil))) pa_nil))) (pe_slice sl_list (pv 6) (po_some (pv 7)) po_none)) (pa_cons (pe_op op_catL (pv 6) (pe_lst (pa_cons (pe_fn ((ok__law_draw G).mono (by decide)) hr hg rfl (pa_cons (pv 0) (pa_cons (pv 2) pa_nil))) pa_nil))) (pa_cons (pe_revL (pv 6)) (pa_cons (pe_lst pa_nil) pa_nil)))))))) (pss_cons (ps_set (i := 8) sc__law_right.nd rfl (by first | exact Or.inl rfl | exact Or.inr rfl) (pe_op op_catL (pv 8) (pe_lst (pa_cons (pe_op op_catL (pv 6) (pv 6)) (pa_cons (pe_lc (own := [("turn", 12)]) rfl sc__law_right.nd (pi_range1 rfl G.b_range (pa_cons pe_int pa_nil)) (show BlkOk N__law_right (defScope s__law_right) _ _ from blkOk_by (by decide +kernel)) (fun _ _ _ _ _ => (pg_name (i := 12) sc__law_right.nd rfl (by first | exact Or.inl rfl | exact Or.inr rfl))) (fun _ _ _ _ _ => pts_nil) (fun _ _ _ _ _ => (pe_fn ((ok__law_draw G).mono (by decide)) hr hg rfl (pa_cons (pv 0) (pa_cons (pv 2) pa_nil))))) (pa_cons (pe_op op_rep (pe_lst (pa_cons (pe_fn ((ok__law_draw G).mono (by decide)) hr hg rfl (pa_cons (pv 0) (pa_cons (pv 2) pa_nil))) pa_nil)) pe_int) pa_nil)))))) (pss_one (ps_for PassesOwn.never rfl (pi_list (pv 8)) (pg_name (i := 9) sc__law_right.nd rfl (by first | exact Or.inl rfl | exact Or.inr rfl)) (pss_one (ps_if (pt_not (pt_val (pe_fn ((ok__law_run_right G).mono (by decide)) hr hg rfl (pa_cons (pv 1) (pa_cons (pv 5) (pa_cons (pv 9) pa_nil)))))) (pss_one (ps_ret pe_bl)) pss_nil)))))))))) (pss_cons (ps_set (i := 6) sc__law_right.nd rfl (by first | exact Or.inl rfl | exact Or.inr rfl) (pe_fn ((ok__law_run G).mono (by decide)) hr hg rfl (pa_cons (pv 0) (pa_cons (pv 1) (pa_cons (pe_ix ix_seq (pv 1) pe_int fun _ _ => rfl) (pa_cons pe_int pa_nil)))))) (pss_cons (ps_set (i := 10) sc__law_right.nd rfl (by first | exact Or.inl rfl | exact Or.inr rfl) (pe_op op_addAll (pe_slice (SlR.or sl_tupA sl_str) (pv 1) po_none (po_some pe_int)) (pe_tup (pa_cons (pe_ix ix_seq (pe_fn ((ok__law_gone G).mono (by decide)) hr hg rfl (pa_cons (pv 1) (pa_cons (pe_ix ix_seq (pv 1) pe_int fun _ _ => rfl) (pa_cons (pv 6) pa_nil)))) pe_int fun _ _ => rfl) pa_nil)))) (pss_one (ps_ret (pe_and (pe_cmpR op_isBl (pe_fn ((ok_is_whole_run G).mono (by decide)) hr hg rfl (pa_cons (pv 10) (pa_cons (pv 6) pa_nil))) pe_bl (nomark _)) (pe_one (pe_fn ((ok__law_run_right G).mono (by decide)) hr hg rfl (pa_cons (pv 10) (pa_cons (pe_ix ix_seq (pv 10) pe_int fun _ _ => rfl) (pa_cons (pv 6) pa_nil)))))))))))))), body_ok (g := g__law_right) (evs_seq (evs_set (i := 1) (ev_cl (evar_p (i := 0) (evar_d (ev_cl (evar_p (i := 0) (evar_d (EvN.e (ev_lst (eva_cons (ev_int _) (eva_cons (ev_int _) (eva_cons (ev_int _) eva_nil))))) evar_nil))) (evar_d (ev_cl (evar_p (i := 0) (evar_d (EvN.e (ev_lst (eva_cons (ev_int _) (eva_cons (ev_int _) eva_nil)))) evar_nil))) evar_nil))))) (evs_seq (evs_unp (vs := [2, 3]) (ev_tup (eva_cons (ev_c1 sim_len (EvE.x (ev_op sim_ix (ev_varx 1) (EvE.x (ev_int _))))) (eva_cons (ev_op sim_ix (ev_varx 1) (EvE.x (ev_int _))) eva_nil))) (evg_tup (evgs_cons (evg_name (i := 2) (by decide)) (evgs_cons (evg_name (i := 3) (by decide)) evgs_nil)))) (evs_seq (evs_set (i := 4) (ev_c1 sim_tuple (EvN.x (ev_lc (own := [11]) (evi_range1 (ev_varx 3)) (evg_name (i := 11) (by decide)) evt_yes (ev_cl (evar_p (i := 0) (evar_d (EvN.e (ev_lst (eva_cons (ev_int _) (eva_cons (ev_int _) (eva_cons (ev_int _) (eva_cons (ev_int _) eva_nil)))))) evar_nil))))))) (evs_seq (evs_for (vs := [5]) (evi_list (EvN.e (ev_lst (eva_cons (ev_op sim_ix (ev_varx 1) (EvE.x (ev_int _))) (eva_cons (ev_var 4) (eva_cons (ev_c1 sim_tuple (EvN.x (ev_lc (own := [11]) (evi_range1 (ev_varx 3)) (evg_name (i := 11) (by decide)) evt_yes (ev_cl (evar_p (i := 0) (evar_d (ev_int _) evar_nil)))))) eva_nil)))))) (evg_name (i := 5) (by decide)) (evs_seq (evs_if (evt_not (evt_val (EvE.x (ev_cl (evar_d (ev_var 1) (evar_d (ev_var 5) evar_nil)))))) (evs_ret (ev_bl _)) evs_nil) (evs_seq (evs_set (i := 6) (EvN.e (ev_clN (evar_p (i := 0) (evar_d (ev_var 1) (evar_d (ev_var 5) (evar_d (ev_cl (evar_p (i := 0) (evar_d (EvN.e (ev_lst (eva_cons (ev_int _) (eva_cons (ev_int _) (eva_cons (ev_int _) eva_nil))))) evar_nil))) evar_nil))))))) (evs_seq (evs_set (i := 7) (ev_cl (evar_p (i := 0) (evar_d (ev_op sim_add (EvE.x (ev_c1 sim_len (ev_varx 6))) (EvE.x (ev_int _))) evar_nil)))) (evs_seq (evs_set (i := 8) (EvN.e (ev_lst (eva_cons (ev_var 6) (eva_cons (EvN.e (ev_opN sim_catL (EvN.x (ev_slL (ev_varx 6) evo_none (evo_some (ev_varx 7)))) (EvN.x (ev_slL (ev_varx 6) (evo_some (EvE.x (ev_op sim_add (ev_varx 7) (EvE.x (ev_int _))))) evo_none)))) (eva_cons (EvN.e (ev_opN sim_catL (EvN.x (ev_opN sim_catL (EvN.x (ev_slL (ev_varx 6) evo_none (evo_some (ev_varx 7)))) (EvN.x (ev_lst (eva_cons (ev_cl (evar_p (i := 0) (evar_d (ev_var 2) evar_nil))) eva_nil))))) (EvN.x (ev_slL (ev_varx 6) (evo_some (ev_varx 7)) evo_none)))) (eva_cons (EvN.e (ev_opN sim_catL (ev_varx 6) (EvN.x (ev_lst (eva_cons (ev_cl (evar_p (i := 0) (evar_d (ev_var 2) evar_nil))) eva_nil))))) (eva_cons (EvN.e (ev_revL (ev_varx 6))) (eva_cons (EvN.e (ev_lst eva_nil)) eva_nil))))))))) (evs_seq (evs_set (i := 8) (EvN.e (ev_opN sim_catL (ev_varx 8) (EvN.x (ev_lst (eva_cons (EvN.e (ev_opN sim_catL (ev_varx 6) (ev_varx 6))) (eva_cons (EvN.e (ev_lc (own := [12]) (evi_range1 (EvE.x (ev_int _))) (evg_name (i := 12) (by decide)) evt_yes (ev_cl (evar_p (i := 0) (evar_d (ev_var 2) evar_nil))))) (eva_cons (EvN.e (ev_repL (ev_lst (eva_cons (ev_cl (evar_p (i := 0) (evar_d (ev_var 2) evar_nil))) eva_nil)) (EvE.x (ev_int _)))) eva_nil)))))))) (evs_for (vs := [9]) (evi_list (ev_var 8)) (evg_name (i := 9) (by decide)) (evs_if (evt_not (evt_val (EvE.x (ev_cl (evar_d (ev_var 1) (evar_d (ev_var 5) (evar_d (ev_var 9) evar_nil))))))) (evs_ret (ev_bl _)) evs_nil)))))))) (evs_seq (evs_set (i := 6) (EvN.e (ev_clN (evar_p (i := 0) (evar_d (ev_var 1) (evar_d (ev_op sim_ix (ev_varx 1) (EvE.x (ev_int _))) (evar_d (ev_int _) evar_nil))))))) (evs_seq (evs_set (i := 10) (ev_op sim_add (EvE.x (ev_slA (ev_varx 1) evo_none (evo_some (EvE.x (ev_int _))))) (EvE.x (ev_tup (eva_cons (ev_op sim_ix (EvE.x (ev_cl (evar_d (ev_var 1) (evar_d (ev_op sim_ix (ev_varx 1) (EvE.x (ev_int _))) (evar_d (ev_var 6) evar_nil))))) (EvE.x (ev_int _))) eva_nil))))) (evs_ret (ev_andV (EvE.x (ev_op sim_isB (EvE.x (ev_cl (evar_d (ev_var 10) (evar_d (ev_var 6) evar_nil)))) (EvE.x (ev_bl _)))) (ev_cl (evar_d (ev_var 10) (evar_d (ev_op sim_ix (ev_varx 10) (EvE.x (ev_int _))) (evar_d (ev_var 6) evar_nil)))))))))))) h⟩)
/-! #### law -/
abbrev s_law : Stmt := top 56
abbrev N_law : List Str := ["script", "turn", "pot", "many", "turns"]
theorem sc_law : FnScope N_law ["script"] (defScope s_law) := ⟨rfl, rfl, rfl, by decide +kernel, rfl, by decide +kernel, by decide +kernel⟩
def g_law : MS := (sSeq (sFor (iR1 (fC (.int 3))) (tName 1) (sIf (fNotT (fTv (fClQ 1 m__law_right (aN (fClN 2 m__law_pot (aD (fV 0) (aD (fV 1) aNil))) aNil)))) (sRet (fC (.bool false))) sNil)) (sSeq (sSetP 2 (fClN 2 m__law_pot (aD (fV 0) (aD (fC (.int 3)) aNil)))) (sSeq (sSet 3 (fCl 2 m__law_pick (aP 2 (aD (fL (fLst (fCons (fC (.int 399)) (fCons (fC (.int 400)) (fCons (fC (.int 200)) fNil))))) aNil)))) (sSeq (sSet 4 (fTup (fCons (fC (.str "sheet")) (fCons (fC (.int 2)) (fCons (fTup (fCons (fTup (fCons (fC (.str "go")) (fCons (fTup (fCons (fC (.int 0)) fNil)) (fCons (fTup (fCons (fC (.int 1)) fNil)) fNil)))) (fCons (fTup (fCons (fC (.str "")) (fCons (fTup (fCons (fC (.int 1)) fNil)) (fCons (fTup (fCons (fC (.int 0)) fNil)) fNil)))) fNil))) (fCons (fTup (fCons (fC (.int 1)) (fCons (fC (.int 0)) fNil))) (fCons (fTup (fCons (fC (.int 0)) (fCons (fC (.int 1)) fNil))) fNil))))))) (sRet (fCl 3 m__law_run_right (aD (fV 4) (aD (fTup (fCons (fC (.int 1)) (fCons (fC (.int 0)) fNil))) (aD (fL (fSlL (fL (fRepL (fLst (fCons (fC (.int 0)) (fCons (fC (.int 1)) fNil))) (fC (.int 200)))) oNone (oSome (fVx 3)))) aNil)))))))))
def m_law : MF := mOfZ 5 g_law
theorem ok_law {P : Program} {w : World} {K : PySem.W.Frag} {mg : Str → Option Value} {base : Heap} {fd : FuncData} (G : Gs K mg) (F : FunD K "law" "law" (defArgs s_law) (defBody s_law) (defScope s_law) [] [] (He.ga K "law") fd) : FnS P w K mg base 10 (He.ga K "law") fd ["script"] (SPd K 1 m_law) :=
  fnS_of F sc_law (fun vs H Q ⟨_, _, _, _, _, _, h, _⟩ => h) (fun cdv A outer s H vs Q hr hg h => have hu := hr.units; ⟨_, (pss_cons (ps_for PassesOwn.never rfl (pi_range1 rfl G.b_range (pa_cons pe_int pa_nil)) (pg_name (i := 1) sc_law.nd rfl (by first | exact Or.inl rfl | exact Or.inr rfl)) (pss_one (ps_if (pt_not (pt_val (pe_fn ((ok__law_right G).mono (by decide)) hr hg rfl (pa_cons (pe_fn ((ok__law_pot G).mono (by decide)) hr hg rfl (pa_cons (pv 0) (pa_cons (pv 1) pa_nil))) pa_nil)))) (pss_one (ps_ret pe_bl)) pss_nil))) (pss_cons (ps_set (i := 2) sc_law.nd rfl (by first | exact Or.inl rfl | exact Or.inr rfl) (pe_fn ((ok__law_pot G).mono (by decide)) hr hg rfl (pa_cons (pv 0) (pa_cons pe_int pa_nil)))) (pss_cons (ps_set (i := 3) sc_law.nd rfl (by first | exact Or.inl rfl | exact Or.inr rfl) (pe_fn ((ok__law_pick G).mono (by decide)) hr hg rfl (pa_cons (pv 2) (pa_cons (pe_lst (pa_cons pe_int (pa_cons pe_int (pa_cons pe_int pa_nil)))) pa_nil)))) (pss_cons (ps_set (i := 4) sc_law.nd rfl (by first | exact Or.inl rfl | exact Or.inr rfl) (pe_tup (pa_cons pe_str (pa_cons pe_int (pa_cons (pe_tup (pa_cons (pe_tup (pa_cons pe_str (pa_cons (pe_tup (pa_cons pe_int pa_nil)) (pa_cons (pe_tup (pa_cons pe_int pa_nil)) pa_nil)))) (pa_cons (pe_tup (pa_cons pe_str (pa_cons (pe_tup (pa_cons pe_int pa_nil)) (pa_cons (pe_tup (pa_cons pe_int pa_nil)) pa_nil)))) pa_nil))) (pa_cons (pe_tup (pa_cons pe_int (pa_cons pe_int pa_nil))) (pa_cons (pe_tup (pa_cons pe_int (pa_cons pe_int pa_nil))) pa_nil))))))) (pss_one (ps_ret (pe_fn ((ok__law_run_right G).mono (by decide)) hr hg rfl (pa_cons (pv 4) (pa_cons (pe_tup (pa_cons pe_int (pa_cons pe_int pa_nil))) (pa_cons (pe_slice sl_list (pe_op op_rep (pe_lst (pa_cons pe_int (pa_cons pe_int pa_nil))) pe_int) po_none (po_some (pv 3))) pa_nil)))))))))), body_okZ (g := g_law) (evz_seq (evz_for (vs := [1]) (evi_range1 (EvE.x (ev_int _))) (evg_name (i := 1) (by decide)) (EvS.z (evs_if (evt_not (evt_val (EvE.x (ev_clQ (evar_n (ev_clN (evar_d (ev_var 0) (evar_d (ev_var 1) evar_nil))) evar_nil))))) (evs_ret (ev_bl _)) evs_nil))) (evz_seq (evz_pot (i := 2) (ev_clN (evar_d (ev_var 0) (evar_d (ev_int _) evar_nil)))) (evz_seq (EvS.z (evs_set (i := 3) (ev_cl (evar_p (i := 2) (evar_d (EvN.e (ev_lst (eva_cons (ev_int _) (eva_cons (ev_int _) (eva_cons (ev_int _) eva_nil))))) evar_nil))))) (evz_seq (EvS.z (evs_set (i := 4) (ev_tup (eva_cons (ev_str _) (eva_cons (ev_int _) (eva_cons (ev_tup (eva_cons (ev_tup (eva_cons (ev_str _) (eva_cons (ev_tup (eva_cons (ev_int _) eva_nil)) (eva_cons (ev_tup (eva_cons (ev_int _) eva_nil)) eva_nil)))) (eva_cons (ev_tup (eva_cons (ev_str _) (eva_cons (ev_tup (eva_cons (ev_int _) eva_nil)) (eva_cons (ev_tup (eva_cons (ev_int _) eva_nil)) eva_nil)))) eva_nil))) (eva_cons (ev_tup (eva_cons (ev_int _) (eva_cons (ev_int _) eva_nil))) (eva_cons (ev_tup (eva_cons (ev_int _) (eva_cons (ev_int _) eva_nil))) eva_nil)))))))) (EvS.z (evs_ret (ev_cl (evar_d (ev_var 4) (evar_d (ev_tup (eva_cons (ev_int _) (eva_cons (ev_int _) eva_nil))) (evar_d (EvN.e (ev_slL (EvN.x (ev_repL (ev_lst (eva_cons (ev_int _) (eva_cons (ev_int _) eva_nil))) (EvE.x (ev_int _)))) evo_none (evo_some (ev_varx 3)))) evar_nil)))))))))) h⟩)
end Law11

set_option maxHeartbeats 2000000
namespace Law11
open PySem DL Pg
set_option autoImplicit false
theorem dr : Draws m__law_draw := drawG (A := 40692) (B := 7573) (C := 19) (by omega) (by omega)
theorem pk : Picks m__law_pick := pickG dr
theorem pots : Pots m__law_pot := potG (A := 41651) (B := 7573) (C := 83) (N := 3) (other := oFirst 1093 461 1000003) (by omega) (by omega) (by omega) fun ns k π h1 h2 h3 => oFirst_ok (by omega) (by omega) (by omega) ns k π h1 h2 h3
/-- a lot: a rising row of places -/
theorem wp_lot {π : Pt} {Q : PyData → Pt → Prop} {p q : Int} (hp : 1 ≤ p) (hp2 : p ≤ 16) (hq : 0 ≤ q) (hq2 : q ≤ 3)
    (h : ∀ ns π', riseI ns = true → (∀ n ∈ ns, 0 ≤ n ∧ n ≤ p - 1) → (1 ≤ q → ns ≠ []) → Q (tup ns) π') : wp (m__law_lot [.p, .d (.int p), .d (.int q)] π) Q := by
  unfold m__law_lot g__law_lot
  simp (config := { failIfUnchanged := false }) only [mOf, mOfZ, mOfR, asB_b, asL_l, asT_t, asRt_rt, asRt_nx, wp_asRt, wp_asB, wp_asL, wp_asT, wp_bind, wp_map, wp_some, wp_fLc, wp_iR1, wp_iA, wp_iE, wp_iS, wp_iR2, caseA_l, caseA_t, caseL_l, caseT_t, caseB_b, caseI_i, caseS_s, entry, List.length_cons, List.length_nil, List.replicate, List.cons_append, List.nil_append, Nat.reduceAdd, Nat.reduceSub, fV, fVx, fC, fB, fBN, fU, fUN, fL, fIsi_ap, fAndV, fOrV, fNotV, fTv, fNotT, fAndT, fOrT, fIf, fIfN, fCh, fCl, fClN, aNil, aD, aN, aP, fNil, fCons, fTup, fLst, sNil, sSeq, sSet, sSetM, sRet, sRetN, sIf, sBrk, sCnt, sDrop, sFor, rSeq, sFrz, iL, iT, iZ, oNone, oSome, fSlA, fSlL, fPot, sPot, gPot, sPotN, tName, tTupG, tsCons, tsNil, sPar, sPar3, notP, sUnp, wipeE, sApp, sExt, sSetIx, List.getElem?_cons_zero, List.getElem?_cons_succ, List.set_cons_zero, List.set_cons_succ, Option.bind_some, Option.map_some, Option.bind_none, Option.map_none, List.all_cons, List.all_nil, Sl.dp, Bool.and_true, Bool.true_and, and_self, and_true, true_and, if_true, if_false, ite_true, ite_false, Bool.false_eq_true, reduceCtorEq, reduceIte, Bool.not_true, Bool.not_false, gEq_str, gEq_int, gAdd_int, le_line, Nat.reduceLeDiff, Nat.reduceEqDiff, ne_eq, not_false_eq_true, cast_2, cast_3, cast_4, cast_5, cast_1, cast_0, eq_self, decide_true, decide_false, okR_of (j := q) (by omega) (by omega)]
  refine wp_for (fun i ρ _ => ∃ (ns : List Int) (s4 s5 : Sl), ρ = [.p, .d (.int p), .d (.int q), .m (ns.map PyData.int), s4, s5] ∧ ns.Nodup ∧ ns.length ≤ i ∧ (1 ≤ i → ns ≠ []) ∧ ∀ n ∈ ns, 0 ≤ n ∧ n ≤ p - 1)
    ⟨[], .e, .e, rfl, List.nodup_nil, Nat.le_refl _, fun h => absurd h (by omega), fun n h => nomatch h⟩ ?_ ?_
  · rintro j x hx ρ π ⟨ns, s4, s5, rfl, h1, h2, h3, h4⟩
    obtain ⟨rfl, hj⟩ := upTo_get hx
    refine ⟨_, rfl, ?_⟩
    simp (config := { failIfUnchanged := false }) only [mOf, mOfZ, mOfR, asB_b, asL_l, asT_t, asRt_rt, asRt_nx, wp_asRt, wp_asB, wp_asL, wp_asT, wp_bind, wp_map, wp_some, wp_fLc, wp_iR1, wp_iA, wp_iE, wp_iS, wp_iR2, caseA_l, caseA_t, caseL_l, caseT_t, caseB_b, caseI_i, caseS_s, entry, List.length_cons, List.length_nil, List.replicate, List.cons_append, List.nil_append, Nat.reduceAdd, Nat.reduceSub, fV, fVx, fC, fB, fBN, fU, fUN, fL, fIsi_ap, fAndV, fOrV, fNotV, fTv, fNotT, fAndT, fOrT, fIf, fIfN, fCh, fCl, fClN, aNil, aD, aN, aP, fNil, fCons, fTup, fLst, sNil, sSeq, sSet, sSetM, sRet, sRetN, sIf, sBrk, sCnt, sDrop, sFor, rSeq, sFrz, iL, iT, iZ, oNone, oSome, fSlA, fSlL, fPot, sPot, gPot, sPotN, tName, tTupG, tsCons, tsNil, sPar, sPar3, notP, sUnp, wipeE, sApp, sExt, sSetIx, List.getElem?_cons_zero, List.getElem?_cons_succ, List.set_cons_zero, List.set_cons_succ, Option.bind_some, Option.map_some, Option.bind_none, Option.map_none, List.all_cons, List.all_nil, Sl.dp, Bool.and_true, Bool.true_and, and_self, and_true, true_and, if_true, if_false, ite_true, ite_false, Bool.false_eq_true, reduceCtorEq, reduceIte, Bool.not_true, Bool.not_false, gEq_str, gEq_int, gAdd_int, le_line, Nat.reduceLeDiff, Nat.reduceEqDiff, ne_eq, not_false_eq_true, cast_2, cast_3, cast_4, cast_5, cast_1, cast_0, eq_self, decide_true, decide_false]
    refine dr.wp hp (by omega) fun d π' d1 d2 => ?_
    have hl1 : (ns.map PyData.int).length + 1 ≤ sizeLine := by rw [List.length_map, sizeLine_eq]; omega
    have hl0 : (ns.map PyData.int).length ≤ sizeLine := by rw [List.length_map, sizeLine_eq]; omega
    cases hin : decide (d ∈ ns) with
    | true =>
      simp (config := { failIfUnchanged := false }) only [mOf, mOfZ, mOfR, asB_b, asL_l, asT_t, asRt_rt, asRt_nx, wp_asRt, wp_asB, wp_asL, wp_asT, wp_bind, wp_map, wp_some, wp_fLc, wp_iR1, wp_iA, wp_iE, wp_iS, wp_iR2, caseA_l, caseA_t, caseL_l, caseT_t, caseB_b, caseI_i, caseS_s, entry, List.length_cons, List.length_nil, List.replicate, List.cons_append, List.nil_append, Nat.reduceAdd, Nat.reduceSub, fV, fVx, fC, fB, fBN, fU, fUN, fL, fIsi_ap, fAndV, fOrV, fNotV, fTv, fNotT, fAndT, fOrT, fIf, fIfN, fCh, fCl, fClN, aNil, aD, aN, aP, fNil, fCons, fTup, fLst, sNil, sSeq, sSet, sSetM, sRet, sRetN, sIf, sBrk, sCnt, sDrop, sFor, rSeq, sFrz, iL, iT, iZ, oNone, oSome, fSlA, fSlL, fPot, sPot, gPot, sPotN, tName, tTupG, tsCons, tsNil, sPar, sPar3, notP, sUnp, wipeE, sApp, sExt, sSetIx, List.getElem?_cons_zero, List.getElem?_cons_succ, List.set_cons_zero, List.set_cons_succ, Option.bind_some, Option.map_some, Option.bind_none, Option.map_none, List.all_cons, List.all_nil, Sl.dp, Bool.and_true, Bool.true_and, and_self, and_true, true_and, if_true, if_false, ite_true, ite_false, Bool.false_eq_true, reduceCtorEq, reduceIte, Bool.not_true, Bool.not_false, gEq_str, gEq_int, gAdd_int, le_line, Nat.reduceLeDiff, Nat.reduceEqDiff, ne_eq, not_false_eq_true, cast_2, cast_3, cast_4, cast_5, cast_1, cast_0, eq_self, decide_true, decide_false, gIn_ints, hin, sExt, List.append_nil, Nat.add_zero, hl0]
      refine ⟨ns, _, _, rfl, h1, by omega, fun _ z => ?_, h4⟩
      have := of_decide_eq_true hin
      rw [z] at this
      cases this
    | false =>
      simp (config := { failIfUnchanged := false }) only [mOf, mOfZ, mOfR, asB_b, asL_l, asT_t, asRt_rt, asRt_nx, wp_asRt, wp_asB, wp_asL, wp_asT, wp_bind, wp_map, wp_some, wp_fLc, wp_iR1, wp_iA, wp_iE, wp_iS, wp_iR2, caseA_l, caseA_t, caseL_l, caseT_t, caseB_b, caseI_i, caseS_s, entry, List.length_cons, List.length_nil, List.replicate, List.cons_append, List.nil_append, Nat.reduceAdd, Nat.reduceSub, fV, fVx, fC, fB, fBN, fU, fUN, fL, fIsi_ap, fAndV, fOrV, fNotV, fTv, fNotT, fAndT, fOrT, fIf, fIfN, fCh, fCl, fClN, aNil, aD, aN, aP, fNil, fCons, fTup, fLst, sNil, sSeq, sSet, sSetM, sRet, sRetN, sIf, sBrk, sCnt, sDrop, sFor, rSeq, sFrz, iL, iT, iZ, oNone, oSome, fSlA, fSlL, fPot, sPot, gPot, sPotN, tName, tTupG, tsCons, tsNil, sPar, sPar3, notP, sUnp, wipeE, sApp, sExt, sSetIx, List.getElem?_cons_zero, List.getElem?_cons_succ, List.set_cons_zero, List.set_cons_succ, Option.bind_some, Option.map_some, Option.bind_none, Option.map_none, List.all_cons, List.all_nil, Sl.dp, Bool.and_true, Bool.true_and, and_self, and_true, true_and, if_true, if_false, ite_true, ite_false, Bool.false_eq_true, reduceCtorEq, reduceIte, Bool.not_true, Bool.not_false, gEq_str, gEq_int, gAdd_int, le_line, Nat.reduceLeDiff, Nat.reduceEqDiff, ne_eq, not_false_eq_true, cast_2, cast_3, cast_4, cast_5, cast_1, cast_0, eq_self, decide_true, decide_false, gIn_ints, hin, sExt, hl1]
      refine ⟨ns ++ [d], _, _, by rw [List.map_append]; rfl, ?_, ?_, fun _ z => by simp at z, fun n hn => ?_⟩
      · rw [List.nodup_append]
        refine ⟨h1, List.nodup_cons.mpr ⟨by simp, List.nodup_nil⟩, ?_⟩
        intro a ha b hb
        rw [List.mem_singleton] at hb
        subst hb
        intro z
        subst z
        exact of_decide_eq_false hin ha
      · rw [List.length_append]; simp; omega
      · rcases List.mem_append.mp hn with z | z
        · exact h4 n z
        · rw [List.mem_singleton] at z
          omega
  · rintro ρ' π' ⟨ns, s4, s5, rfl, h1, h2, h3, h4⟩
    rw [upTo_length] at h2 h3
    have hs := srtI_perm ns
    simp (config := { failIfUnchanged := false }) only [mOf, mOfZ, mOfR, asB_b, asL_l, asT_t, asRt_rt, asRt_nx, wp_asRt, wp_asB, wp_asL, wp_asT, wp_bind, wp_map, wp_some, wp_fLc, wp_iR1, wp_iA, wp_iE, wp_iS, wp_iR2, caseA_l, caseA_t, caseL_l, caseT_t, caseB_b, caseI_i, caseS_s, entry, List.length_cons, List.length_nil, List.replicate, List.cons_append, List.nil_append, Nat.reduceAdd, Nat.reduceSub, fV, fVx, fC, fB, fBN, fU, fUN, fL, fIsi_ap, fAndV, fOrV, fNotV, fTv, fNotT, fAndT, fOrT, fIf, fIfN, fCh, fCl, fClN, aNil, aD, aN, aP, fNil, fCons, fTup, fLst, sNil, sSeq, sSet, sSetM, sRet, sRetN, sIf, sBrk, sCnt, sDrop, sFor, rSeq, sFrz, iL, iT, iZ, oNone, oSome, fSlA, fSlL, fPot, sPot, gPot, sPotN, tName, tTupG, tsCons, tsNil, sPar, sPar3, notP, sUnp, wipeE, sApp, sExt, sSetIx, List.getElem?_cons_zero, List.getElem?_cons_succ, List.set_cons_zero, List.set_cons_succ, Option.bind_some, Option.map_some, Option.bind_none, Option.map_none, List.all_cons, List.all_nil, Sl.dp, Bool.and_true, Bool.true_and, and_self, and_true, true_and, if_true, if_false, ite_true, ite_false, Bool.false_eq_true, reduceCtorEq, reduceIte, Bool.not_true, Bool.not_false, gEq_str, gEq_int, gAdd_int, le_line, Nat.reduceLeDiff, Nat.reduceEqDiff, ne_eq, not_false_eq_true, cast_2, cast_3, cast_4, cast_5, cast_1, cast_0, eq_self, decide_true, decide_false, gSortI, ints_map, gTuple]
    refine h (srtI ns) π' ?_ (fun n hn => h4 n (hs.mem_iff.mp hn)) fun hq z => ?_
    · rw [riseI_lt]
      exact sorted_lt (srtI_sorted ns) (hs.nodup_iff.mpr h1)
    · have e0 := hs.length_eq
      rw [z] at e0
      exact h3 (by omega) (List.length_eq_zero_iff.mp e0.symm)
end Law11

set_option maxHeartbeats 4000000
namespace Law11
open PySem DL Pg
set_option autoImplicit false
theorem okR_nat {n : Nat} (h : n ≤ 1000000) : okR (n : Int) = true := okR_of (by omega) (by omega)
theorem tasks_out {p : Int} : ∀ {xs : List PyData}, (∀ x ∈ xs, ∃ t : Tsk, x = t.d ∧ t.Ok p) → ∃ ts : List Tsk, xs = ts.map Tsk.d ∧ ∀ t ∈ ts, t.Ok p
  | [], _ => ⟨[], rfl, fun _ h => nomatch h⟩
  | x :: xs, h => by
    obtain ⟨t, rfl, ht⟩ := h x List.mem_cons_self
    obtain ⟨ts, rfl, hts⟩ := tasks_out fun y hy => h y (List.mem_cons_of_mem _ hy)
    exact ⟨t :: ts, rfl, fun u hu => (List.mem_cons.mp hu).elim (fun e => by rw [e]; exact ht) (hts u)⟩
theorem ints_out {a b : Int} : ∀ {xs : List PyData}, (∀ x ∈ xs, ∃ n : Int, x = .int n ∧ a ≤ n ∧ n ≤ b) → ∃ ns : List Int, xs = ns.map PyData.int ∧ ∀ n ∈ ns, a ≤ n ∧ n ≤ b
  | [], _ => ⟨[], rfl, fun _ h => nomatch h⟩
  | x :: xs, h => by
    obtain ⟨t, rfl, ht⟩ := h x List.mem_cons_self
    obtain ⟨ts, rfl, hts⟩ := ints_out fun y hy => h y (List.mem_cons_of_mem _ hy)
    exact ⟨t :: ts, rfl, fun u hu => (List.mem_cons.mp hu).elim (fun e => by rw [e]; exact ht) (hts u)⟩
theorem sizes_ok (w da db dc : Int) (pk : PyData) (hw : 0 ≤ w ∧ w < 4) (ha : 0 ≤ da ∧ da < 2) (hb : 0 ≤ db ∧ db < 3) (hc : 0 ≤ dc ∧ dc < 2) (hp : pk ∈ ([.tuple [.int 1, .int 2], .tuple [.int 2, .int 1], .tuple [.int 1, .int 1]] : List PyData)) :
    ∃ a b, L2.atI [.tuple [.int (1 + da), .int db], .tuple [.int 1, .int 1], pk, .tuple [.int 1, .int (1 + dc)]] w = some (.tuple [.int a, .int b]) ∧ 1 ≤ a ∧ a ≤ 2 ∧ 0 ≤ b ∧ b ≤ 2 := by
  rcases (by omega : w = 0 ∨ w = 1 ∨ w = 2 ∨ w = 3) with rfl | rfl | rfl | rfl
  · exact ⟨1 + da, db, by rw [atI_0]; rfl, by omega, by omega, by omega, by omega⟩
  · exact ⟨1, 1, by rw [atI_1]; rfl, by omega, by omega, by omega, by omega⟩
  · simp only [List.mem_cons, List.not_mem_nil, or_false] at hp
    rcases hp with rfl | rfl | rfl
    · exact ⟨1, 2, by rw [atI_2]; rfl, by omega, by omega, by omega, by omega⟩
    · exact ⟨2, 1, by rw [atI_2]; rfl, by omega, by omega, by omega, by omega⟩
    · exact ⟨1, 1, by rw [atI_2]; rfl, by omega, by omega, by omega, by omega⟩
  · exact ⟨1, 1 + dc, by rw [atI_3]; rfl, by omega, by omega, by omega, by omega⟩
theorem names_ok {x : PyData} (h : x ∈ ([.str "", .str "a", .str "b", .str "c", .str "a2", .str "look_at"] : List PyData)) : ∃ z : Str, x = .str z ∧ (decide (z = "") || nameB z) = true := by
  simp only [List.mem_cons, List.not_mem_nil, or_false] at h
  rcases h with rfl | rfl | rfl | rfl | rfl | rfl <;> exact ⟨_, rfl, by decide +kernel⟩
theorem wp_sheet {π : Pt} {Q : PyData → Pt → Prop} {most many : Int} (h1 : 1 ≤ most) (h2 : most ≤ 16) (h3 : 1 ≤ many) (h4 : many ≤ 24) (h : ∀ (S : Sht) π', S.Ok → Q S.d π') :
    wp (m__law_sheet [.p, .d (.int most), .d (.int many)] π) Q := by
  unfold m__law_sheet g__law_sheet
  simp (config := { failIfUnchanged := false }) only [mOf, mOfZ, mOfR, asB_b, asL_l, asT_t, asRt_rt, asRt_nx, wp_asRt, wp_asB, wp_asL, wp_asT, wp_bind, wp_map, wp_some, wp_fLc, wp_iR1, wp_iA, wp_iE, wp_iS, wp_iR2, caseA_l, caseA_t, caseL_l, caseT_t, caseB_b, caseI_i, caseS_s, entry, List.length_cons, List.length_nil, List.replicate, List.cons_append, List.nil_append, Nat.reduceAdd, Nat.reduceSub, fV, fVx, fC, fB, fBN, fU, fUN, fL, fIsi_ap, fAndV, fOrV, fNotV, fTv, fNotT, fAndT, fOrT, fIf, fIfN, fCh, fCl, fClN, aNil, aD, aN, aP, fNil, fCons, fTup, fLst, sNil, sSeq, sSet, sSetM, sRet, sRetN, sIf, sBrk, sCnt, sDrop, sFor, rSeq, sFrz, iL, iT, iZ, oNone, oSome, fSlA, fSlL, fPot, sPot, gPot, sPotN, tName, tTupG, tsCons, tsNil, sPar, sPar3, notP, sUnp, wipeE, sApp, sExt, sSetIx, List.getElem?_cons_zero, List.getElem?_cons_succ, List.set_cons_zero, List.set_cons_succ, Option.bind_some, Option.map_some, Option.bind_none, Option.map_none, List.all_cons, List.all_nil, Sl.dp, Bool.and_true, Bool.true_and, and_self, and_true, true_and, if_true, if_false, ite_true, ite_false, Bool.false_eq_true, reduceCtorEq, reduceIte, Bool.not_true, Bool.not_false, gEq_str, gEq_int, gAdd_int, le_line, Nat.reduceLeDiff, Nat.reduceEqDiff, ne_eq, not_false_eq_true, cast_2, cast_3, cast_4, cast_5, cast_1, cast_0, eq_self, decide_true, decide_false]
  refine dr.wp h1 (by omega) fun d0 π z1 z2 => ?_
  simp (config := { failIfUnchanged := false }) only [mOf, mOfZ, mOfR, asB_b, asL_l, asT_t, asRt_rt, asRt_nx, wp_asRt, wp_asB, wp_asL, wp_asT, wp_bind, wp_map, wp_some, wp_fLc, wp_iR1, wp_iA, wp_iE, wp_iS, wp_iR2, caseA_l, caseA_t, caseL_l, caseT_t, caseB_b, caseI_i, caseS_s, entry, List.length_cons, List.length_nil, List.replicate, List.cons_append, List.nil_append, Nat.reduceAdd, Nat.reduceSub, fV, fVx, fC, fB, fBN, fU, fUN, fL, fIsi_ap, fAndV, fOrV, fNotV, fTv, fNotT, fAndT, fOrT, fIf, fIfN, fCh, fCl, fClN, aNil, aD, aN, aP, fNil, fCons, fTup, fLst, sNil, sSeq, sSet, sSetM, sRet, sRetN, sIf, sBrk, sCnt, sDrop, sFor, rSeq, sFrz, iL, iT, iZ, oNone, oSome, fSlA, fSlL, fPot, sPot, gPot, sPotN, tName, tTupG, tsCons, tsNil, sPar, sPar3, notP, sUnp, wipeE, sApp, sExt, sSetIx, List.getElem?_cons_zero, List.getElem?_cons_succ, List.set_cons_zero, List.set_cons_succ, Option.bind_some, Option.map_some, Option.bind_none, Option.map_none, List.all_cons, List.all_nil, Sl.dp, Bool.and_true, Bool.true_and, and_self, and_true, true_and, if_true, if_false, ite_true, ite_false, Bool.false_eq_true, reduceCtorEq, reduceIte, Bool.not_true, Bool.not_false, gEq_str, gEq_int, gAdd_int, le_line, Nat.reduceLeDiff, Nat.reduceEqDiff, ne_eq, not_false_eq_true, cast_2, cast_3, cast_4, cast_5, cast_1, cast_0, eq_self, decide_true, decide_false]
  refine dr.wp (by omega) (by omega) fun w π w1 w2 => ?_
  simp (config := { failIfUnchanged := false }) only [mOf, mOfZ, mOfR, asB_b, asL_l, asT_t, asRt_rt, asRt_nx, wp_asRt, wp_asB, wp_asL, wp_asT, wp_bind, wp_map, wp_some, wp_fLc, wp_iR1, wp_iA, wp_iE, wp_iS, wp_iR2, caseA_l, caseA_t, caseL_l, caseT_t, caseB_b, caseI_i, caseS_s, entry, List.length_cons, List.length_nil, List.replicate, List.cons_append, List.nil_append, Nat.reduceAdd, Nat.reduceSub, fV, fVx, fC, fB, fBN, fU, fUN, fL, fIsi_ap, fAndV, fOrV, fNotV, fTv, fNotT, fAndT, fOrT, fIf, fIfN, fCh, fCl, fClN, aNil, aD, aN, aP, fNil, fCons, fTup, fLst, sNil, sSeq, sSet, sSetM, sRet, sRetN, sIf, sBrk, sCnt, sDrop, sFor, rSeq, sFrz, iL, iT, iZ, oNone, oSome, fSlA, fSlL, fPot, sPot, gPot, sPotN, tName, tTupG, tsCons, tsNil, sPar, sPar3, notP, sUnp, wipeE, sApp, sExt, sSetIx, List.getElem?_cons_zero, List.getElem?_cons_succ, List.set_cons_zero, List.set_cons_succ, Option.bind_some, Option.map_some, Option.bind_none, Option.map_none, List.all_cons, List.all_nil, Sl.dp, Bool.and_true, Bool.true_and, and_self, and_true, true_and, if_true, if_false, ite_true, ite_false, Bool.false_eq_true, reduceCtorEq, reduceIte, Bool.not_true, Bool.not_false, gEq_str, gEq_int, gAdd_int, le_line, Nat.reduceLeDiff, Nat.reduceEqDiff, ne_eq, not_false_eq_true, cast_2, cast_3, cast_4, cast_5, cast_1, cast_0, eq_self, decide_true, decide_false]
  refine dr.wp h3 (by omega) fun dn π y1 y2 => ?_
  simp (config := { failIfUnchanged := false }) only [mOf, mOfZ, mOfR, asB_b, asL_l, asT_t, asRt_rt, asRt_nx, wp_asRt, wp_asB, wp_asL, wp_asT, wp_bind, wp_map, wp_some, wp_fLc, wp_iR1, wp_iA, wp_iE, wp_iS, wp_iR2, caseA_l, caseA_t, caseL_l, caseT_t, caseB_b, caseI_i, caseS_s, entry, List.length_cons, List.length_nil, List.replicate, List.cons_append, List.nil_append, Nat.reduceAdd, Nat.reduceSub, fV, fVx, fC, fB, fBN, fU, fUN, fL, fIsi_ap, fAndV, fOrV, fNotV, fTv, fNotT, fAndT, fOrT, fIf, fIfN, fCh, fCl, fClN, aNil, aD, aN, aP, fNil, fCons, fTup, fLst, sNil, sSeq, sSet, sSetM, sRet, sRetN, sIf, sBrk, sCnt, sDrop, sFor, rSeq, sFrz, iL, iT, iZ, oNone, oSome, fSlA, fSlL, fPot, sPot, gPot, sPotN, tName, tTupG, tsCons, tsNil, sPar, sPar3, notP, sUnp, wipeE, sApp, sExt, sSetIx, List.getElem?_cons_zero, List.getElem?_cons_succ, List.set_cons_zero, List.set_cons_succ, Option.bind_some, Option.map_some, Option.bind_none, Option.map_none, List.all_cons, List.all_nil, Sl.dp, Bool.and_true, Bool.true_and, and_self, and_true, true_and, if_true, if_false, ite_true, ite_false, Bool.false_eq_true, reduceCtorEq, reduceIte, Bool.not_true, Bool.not_false, gEq_str, gEq_int, gAdd_int, le_line, Nat.reduceLeDiff, Nat.reduceEqDiff, ne_eq, not_false_eq_true, cast_2, cast_3, cast_4, cast_5, cast_1, cast_0, eq_self, decide_true, decide_false, okR_of (j := 1 + dn) (by omega) (by omega)]
  refine wp_for (fun i ρ _ => ∃ (ts : List Tsk) (s6 s7 s8 : Sl), ρ = [.p, .d (.int most), .d (.int many), .d (.int (1 + d0)), .d (.int w), .m (ts.map Tsk.d), s6, s7, s8, .e, .e] ∧ ts.length = i ∧ ∀ t ∈ ts, t.Ok (1 + d0)) ⟨[], .e, .e, .e, rfl, rfl, fun _ h => nomatch h⟩ ?_ ?_
  · rintro j x hx ρ π ⟨ts, s6, s7, s8, rfl, hl, ht⟩
    obtain ⟨rfl, hj⟩ := upTo_get hx
    refine ⟨_, rfl, ?_⟩
    simp (config := { failIfUnchanged := false }) only [mOf, mOfZ, mOfR, asB_b, asL_l, asT_t, asRt_rt, asRt_nx, wp_asRt, wp_asB, wp_asL, wp_asT, wp_bind, wp_map, wp_some, wp_fLc, wp_iR1, wp_iA, wp_iE, wp_iS, wp_iR2, caseA_l, caseA_t, caseL_l, caseT_t, caseB_b, caseI_i, caseS_s, entry, List.length_cons, List.length_nil, List.replicate, List.cons_append, List.nil_append, Nat.reduceAdd, Nat.reduceSub, fV, fVx, fC, fB, fBN, fU, fUN, fL, fIsi_ap, fAndV, fOrV, fNotV, fTv, fNotT, fAndT, fOrT, fIf, fIfN, fCh, fCl, fClN, aNil, aD, aN, aP, fNil, fCons, fTup, fLst, sNil, sSeq, sSet, sSetM, sRet, sRetN, sIf, sBrk, sCnt, sDrop, sFor, rSeq, sFrz, iL, iT, iZ, oNone, oSome, fSlA, fSlL, fPot, sPot, gPot, sPotN, tName, tTupG, tsCons, tsNil, sPar, sPar3, notP, sUnp, wipeE, sApp, sExt, sSetIx, List.getElem?_cons_zero, List.getElem?_cons_succ, List.set_cons_zero, List.set_cons_succ, Option.bind_some, Option.map_some, Option.bind_none, Option.map_none, List.all_cons, List.all_nil, Sl.dp, Bool.and_true, Bool.true_and, and_self, and_true, true_and, if_true, if_false, ite_true, ite_false, Bool.false_eq_true, reduceCtorEq, reduceIte, Bool.not_true, Bool.not_false, gEq_str, gEq_int, gAdd_int, le_line, Nat.reduceLeDiff, Nat.reduceEqDiff, ne_eq, not_false_eq_true, cast_2, cast_3, cast_4, cast_5, cast_1, cast_0, eq_self, decide_true, decide_false]
    refine pk.lst (by simp) (by simp) fun nm π m1 => ?_
    obtain ⟨z, rfl, hz⟩ := names_ok m1
    simp (config := { failIfUnchanged := false }) only [mOf, mOfZ, mOfR, asB_b, asL_l, asT_t, asRt_rt, asRt_nx, wp_asRt, wp_asB, wp_asL, wp_asT, wp_bind, wp_map, wp_some, wp_fLc, wp_iR1, wp_iA, wp_iE, wp_iS, wp_iR2, caseA_l, caseA_t, caseL_l, caseT_t, caseB_b, caseI_i, caseS_s, entry, List.length_cons, List.length_nil, List.replicate, List.cons_append, List.nil_append, Nat.reduceAdd, Nat.reduceSub, fV, fVx, fC, fB, fBN, fU, fUN, fL, fIsi_ap, fAndV, fOrV, fNotV, fTv, fNotT, fAndT, fOrT, fIf, fIfN, fCh, fCl, fClN, aNil, aD, aN, aP, fNil, fCons, fTup, fLst, sNil, sSeq, sSet, sSetM, sRet, sRetN, sIf, sBrk, sCnt, sDrop, sFor, rSeq, sFrz, iL, iT, iZ, oNone, oSome, fSlA, fSlL, fPot, sPot, gPot, sPotN, tName, tTupG, tsCons, tsNil, sPar, sPar3, notP, sUnp, wipeE, sApp, sExt, sSetIx, List.getElem?_cons_zero, List.getElem?_cons_succ, List.set_cons_zero, List.set_cons_succ, Option.bind_some, Option.map_some, Option.bind_none, Option.map_none, List.all_cons, List.all_nil, Sl.dp, Bool.and_true, Bool.true_and, and_self, and_true, true_and, if_true, if_false, ite_true, ite_false, Bool.false_eq_true, reduceCtorEq, reduceIte, Bool.not_true, Bool.not_false, gEq_str, gEq_int, gAdd_int, le_line, Nat.reduceLeDiff, Nat.reduceEqDiff, ne_eq, not_false_eq_true, cast_2, cast_3, cast_4, cast_5, cast_1, cast_0, eq_self, decide_true, decide_false]
    refine dr.wp (by omega) (by omega) fun da π a1 a2 => ?_
    simp (config := { failIfUnchanged := false }) only [mOf, mOfZ, mOfR, asB_b, asL_l, asT_t, asRt_rt, asRt_nx, wp_asRt, wp_asB, wp_asL, wp_asT, wp_bind, wp_map, wp_some, wp_fLc, wp_iR1, wp_iA, wp_iE, wp_iS, wp_iR2, caseA_l, caseA_t, caseL_l, caseT_t, caseB_b, caseI_i, caseS_s, entry, List.length_cons, List.length_nil, List.replicate, List.cons_append, List.nil_append, Nat.reduceAdd, Nat.reduceSub, fV, fVx, fC, fB, fBN, fU, fUN, fL, fIsi_ap, fAndV, fOrV, fNotV, fTv, fNotT, fAndT, fOrT, fIf, fIfN, fCh, fCl, fClN, aNil, aD, aN, aP, fNil, fCons, fTup, fLst, sNil, sSeq, sSet, sSetM, sRet, sRetN, sIf, sBrk, sCnt, sDrop, sFor, rSeq, sFrz, iL, iT, iZ, oNone, oSome, fSlA, fSlL, fPot, sPot, gPot, sPotN, tName, tTupG, tsCons, tsNil, sPar, sPar3, notP, sUnp, wipeE, sApp, sExt, sSetIx, List.getElem?_cons_zero, List.getElem?_cons_succ, List.set_cons_zero, List.set_cons_succ, Option.bind_some, Option.map_some, Option.bind_none, Option.map_none, List.all_cons, List.all_nil, Sl.dp, Bool.and_true, Bool.true_and, and_self, and_true, true_and, if_true, if_false, ite_true, ite_false, Bool.false_eq_true, reduceCtorEq, reduceIte, Bool.not_true, Bool.not_false, gEq_str, gEq_int, gAdd_int, le_line, Nat.reduceLeDiff, Nat.reduceEqDiff, ne_eq, not_false_eq_true, cast_2, cast_3, cast_4, cast_5, cast_1, cast_0, eq_self, decide_true, decide_false]
    refine dr.wp (by omega) (by omega) fun db π b1 b2 => ?_
    simp (config := { failIfUnchanged := false }) only [mOf, mOfZ, mOfR, asB_b, asL_l, asT_t, asRt_rt, asRt_nx, wp_asRt, wp_asB, wp_asL, wp_asT, wp_bind, wp_map, wp_some, wp_fLc, wp_iR1, wp_iA, wp_iE, wp_iS, wp_iR2, caseA_l, caseA_t, caseL_l, caseT_t, caseB_b, caseI_i, caseS_s, entry, List.length_cons, List.length_nil, List.replicate, List.cons_append, List.nil_append, Nat.reduceAdd, Nat.reduceSub, fV, fVx, fC, fB, fBN, fU, fUN, fL, fIsi_ap, fAndV, fOrV, fNotV, fTv, fNotT, fAndT, fOrT, fIf, fIfN, fCh, fCl, fClN, aNil, aD, aN, aP, fNil, fCons, fTup, fLst, sNil, sSeq, sSet, sSetM, sRet, sRetN, sIf, sBrk, sCnt, sDrop, sFor, rSeq, sFrz, iL, iT, iZ, oNone, oSome, fSlA, fSlL, fPot, sPot, gPot, sPotN, tName, tTupG, tsCons, tsNil, sPar, sPar3, notP, sUnp, wipeE, sApp, sExt, sSetIx, List.getElem?_cons_zero, List.getElem?_cons_succ, List.set_cons_zero, List.set_cons_succ, Option.bind_some, Option.map_some, Option.bind_none, Option.map_none, List.all_cons, List.all_nil, Sl.dp, Bool.and_true, Bool.true_and, and_self, and_true, true_and, if_true, if_false, ite_true, ite_false, Bool.false_eq_true, reduceCtorEq, reduceIte, Bool.not_true, Bool.not_false, gEq_str, gEq_int, gAdd_int, le_line, Nat.reduceLeDiff, Nat.reduceEqDiff, ne_eq, not_false_eq_true, cast_2, cast_3, cast_4, cast_5, cast_1, cast_0, eq_self, decide_true, decide_false]
    refine pk.lst (by simp) (by simp) fun pk π m4 => ?_
    simp (config := { failIfUnchanged := false }) only [mOf, mOfZ, mOfR, asB_b, asL_l, asT_t, asRt_rt, asRt_nx, wp_asRt, wp_asB, wp_asL, wp_asT, wp_bind, wp_map, wp_some, wp_fLc, wp_iR1, wp_iA, wp_iE, wp_iS, wp_iR2, caseA_l, caseA_t, caseL_l, caseT_t, caseB_b, caseI_i, caseS_s, entry, List.length_cons, List.length_nil, List.replicate, List.cons_append, List.nil_append, Nat.reduceAdd, Nat.reduceSub, fV, fVx, fC, fB, fBN, fU, fUN, fL, fIsi_ap, fAndV, fOrV, fNotV, fTv, fNotT, fAndT, fOrT, fIf, fIfN, fCh, fCl, fClN, aNil, aD, aN, aP, fNil, fCons, fTup, fLst, sNil, sSeq, sSet, sSetM, sRet, sRetN, sIf, sBrk, sCnt, sDrop, sFor, rSeq, sFrz, iL, iT, iZ, oNone, oSome, fSlA, fSlL, fPot, sPot, gPot, sPotN, tName, tTupG, tsCons, tsNil, sPar, sPar3, notP, sUnp, wipeE, sApp, sExt, sSetIx, List.getElem?_cons_zero, List.getElem?_cons_succ, List.set_cons_zero, List.set_cons_succ, Option.bind_some, Option.map_some, Option.bind_none, Option.map_none, List.all_cons, List.all_nil, Sl.dp, Bool.and_true, Bool.true_and, and_self, and_true, true_and, if_true, if_false, ite_true, ite_false, Bool.false_eq_true, reduceCtorEq, reduceIte, Bool.not_true, Bool.not_false, gEq_str, gEq_int, gAdd_int, le_line, Nat.reduceLeDiff, Nat.reduceEqDiff, ne_eq, not_false_eq_true, cast_2, cast_3, cast_4, cast_5, cast_1, cast_0, eq_self, decide_true, decide_false]
    refine dr.wp (by omega) (by omega) fun dc π c1 c2 => ?_
    obtain ⟨a, b, e6, q1, q2, q3, q4⟩ := sizes_ok w da db dc pk ⟨w1, w2⟩ ⟨a1, a2⟩ ⟨b1, b2⟩ ⟨c1, c2⟩ m4
    simp (config := { failIfUnchanged := false }) only [mOf, mOfZ, mOfR, asB_b, asL_l, asT_t, asRt_rt, asRt_nx, wp_asRt, wp_asB, wp_asL, wp_asT, wp_bind, wp_map, wp_some, wp_fLc, wp_iR1, wp_iA, wp_iE, wp_iS, wp_iR2, caseA_l, caseA_t, caseL_l, caseT_t, caseB_b, caseI_i, caseS_s, entry, List.length_cons, List.length_nil, List.replicate, List.cons_append, List.nil_append, Nat.reduceAdd, Nat.reduceSub, fV, fVx, fC, fB, fBN, fU, fUN, fL, fIsi_ap, fAndV, fOrV, fNotV, fTv, fNotT, fAndT, fOrT, fIf, fIfN, fCh, fCl, fClN, aNil, aD, aN, aP, fNil, fCons, fTup, fLst, sNil, sSeq, sSet, sSetM, sRet, sRetN, sIf, sBrk, sCnt, sDrop, sFor, rSeq, sFrz, iL, iT, iZ, oNone, oSome, fSlA, fSlL, fPot, sPot, gPot, sPotN, tName, tTupG, tsCons, tsNil, sPar, sPar3, notP, sUnp, wipeE, sApp, sExt, sSetIx, List.getElem?_cons_zero, List.getElem?_cons_succ, List.set_cons_zero, List.set_cons_succ, Option.bind_some, Option.map_some, Option.bind_none, Option.map_none, List.all_cons, List.all_nil, Sl.dp, Bool.and_true, Bool.true_and, and_self, and_true, true_and, if_true, if_false, ite_true, ite_false, Bool.false_eq_true, reduceCtorEq, reduceIte, Bool.not_true, Bool.not_false, gEq_str, gEq_int, gAdd_int, le_line, Nat.reduceLeDiff, Nat.reduceEqDiff, ne_eq, not_false_eq_true, cast_2, cast_3, cast_4, cast_5, cast_1, cast_0, eq_self, decide_true, decide_false, gAdd, gIx_lst, e6, gIx_tup, atI_0, atI_1]
    refine wp_lot (by omega) (by omega) (by omega) (by omega) fun n1 π u1 u2 u3 => ?_
    simp (config := { failIfUnchanged := false }) only [mOf, mOfZ, mOfR, asB_b, asL_l, asT_t, asRt_rt, asRt_nx, wp_asRt, wp_asB, wp_asL, wp_asT, wp_bind, wp_map, wp_some, wp_fLc, wp_iR1, wp_iA, wp_iE, wp_iS, wp_iR2, caseA_l, caseA_t, caseL_l, caseT_t, caseB_b, caseI_i, caseS_s, entry, List.length_cons, List.length_nil, List.replicate, List.cons_append, List.nil_append, Nat.reduceAdd, Nat.reduceSub, fV, fVx, fC, fB, fBN, fU, fUN, fL, fIsi_ap, fAndV, fOrV, fNotV, fTv, fNotT, fAndT, fOrT, fIf, fIfN, fCh, fCl, fClN, aNil, aD, aN, aP, fNil, fCons, fTup, fLst, sNil, sSeq, sSet, sSetM, sRet, sRetN, sIf, sBrk, sCnt, sDrop, sFor, rSeq, sFrz, iL, iT, iZ, oNone, oSome, fSlA, fSlL, fPot, sPot, gPot, sPotN, tName, tTupG, tsCons, tsNil, sPar, sPar3, notP, sUnp, wipeE, sApp, sExt, sSetIx, List.getElem?_cons_zero, List.getElem?_cons_succ, List.set_cons_zero, List.set_cons_succ, Option.bind_some, Option.map_some, Option.bind_none, Option.map_none, List.all_cons, List.all_nil, Sl.dp, Bool.and_true, Bool.true_and, and_self, and_true, true_and, if_true, if_false, ite_true, ite_false, Bool.false_eq_true, reduceCtorEq, reduceIte, Bool.not_true, Bool.not_false, gEq_str, gEq_int, gAdd_int, le_line, Nat.reduceLeDiff, Nat.reduceEqDiff, ne_eq, not_false_eq_true, cast_2, cast_3, cast_4, cast_5, cast_1, cast_0, eq_self, decide_true, decide_false, gIx_tup, atI_0, atI_1]
    refine wp_lot (by omega) (by omega) (by omega) (by omega) fun n2 π v1 v2 v3 => ?_
    have hlt : ((ts.map Tsk.d).length < sizeLine) = True := lt_line1 (by rw [List.length_map]; omega)
    simp (config := { failIfUnchanged := false }) only [mOf, mOfZ, mOfR, asB_b, asL_l, asT_t, asRt_rt, asRt_nx, wp_asRt, wp_asB, wp_asL, wp_asT, wp_bind, wp_map, wp_some, wp_fLc, wp_iR1, wp_iA, wp_iE, wp_iS, wp_iR2, caseA_l, caseA_t, caseL_l, caseT_t, caseB_b, caseI_i, caseS_s, entry, List.length_cons, List.length_nil, List.replicate, List.cons_append, List.nil_append, Nat.reduceAdd, Nat.reduceSub, fV, fVx, fC, fB, fBN, fU, fUN, fL, fIsi_ap, fAndV, fOrV, fNotV, fTv, fNotT, fAndT, fOrT, fIf, fIfN, fCh, fCl, fClN, aNil, aD, aN, aP, fNil, fCons, fTup, fLst, sNil, sSeq, sSet, sSetM, sRet, sRetN, sIf, sBrk, sCnt, sDrop, sFor, rSeq, sFrz, iL, iT, iZ, oNone, oSome, fSlA, fSlL, fPot, sPot, gPot, sPotN, tName, tTupG, tsCons, tsNil, sPar, sPar3, notP, sUnp, wipeE, sApp, sExt, sSetIx, List.getElem?_cons_zero, List.getElem?_cons_succ, List.set_cons_zero, List.set_cons_succ, Option.bind_some, Option.map_some, Option.bind_none, Option.map_none, List.all_cons, List.all_nil, Sl.dp, Bool.and_true, Bool.true_and, and_self, and_true, true_and, if_true, if_false, ite_true, ite_false, Bool.false_eq_true, reduceCtorEq, reduceIte, Bool.not_true, Bool.not_false, gEq_str, gEq_int, gAdd_int, le_line, Nat.reduceLeDiff, Nat.reduceEqDiff, ne_eq, not_false_eq_true, cast_2, cast_3, cast_4, cast_5, cast_1, cast_0, eq_self, decide_true, decide_false, sApp, hlt]
    refine ⟨ts ++ [⟨z, n1, n2⟩], _, _, _, by rw [List.map_append]; rfl, by rw [List.length_append, hl]; rfl, fun t hm => ?_⟩
    rcases List.mem_append.mp hm with q | q
    · exact ht t q
    · rw [List.mem_singleton] at q
      subst q
      exact ⟨hz, u1, u2, u3 (by omega), v1, v2⟩
  · rintro ρ' π ⟨ts, s6, s7, s8, rfl, hl, ht⟩
    rw [upTo_length] at hl
    simp (config := { failIfUnchanged := false }) only [mOf, mOfZ, mOfR, asB_b, asL_l, asT_t, asRt_rt, asRt_nx, wp_asRt, wp_asB, wp_asL, wp_asT, wp_bind, wp_map, wp_some, wp_fLc, wp_iR1, wp_iA, wp_iE, wp_iS, wp_iR2, caseA_l, caseA_t, caseL_l, caseT_t, caseB_b, caseI_i, caseS_s, entry, List.length_cons, List.length_nil, List.replicate, List.cons_append, List.nil_append, Nat.reduceAdd, Nat.reduceSub, fV, fVx, fC, fB, fBN, fU, fUN, fL, fIsi_ap, fAndV, fOrV, fNotV, fTv, fNotT, fAndT, fOrT, fIf, fIfN, fCh, fCl, fClN, aNil, aD, aN, aP, fNil, fCons, fTup, fLst, sNil, sSeq, sSet, sSetM, sRet, sRetN, sIf, sBrk, sCnt, sDrop, sFor, rSeq, sFrz, iL, iT, iZ, oNone, oSome, fSlA, fSlL, fPot, sPot, gPot, sPotN, tName, tTupG, tsCons, tsNil, sPar, sPar3, notP, sUnp, wipeE, sApp, sExt, sSetIx, List.getElem?_cons_zero, List.getElem?_cons_succ, List.set_cons_zero, List.set_cons_succ, Option.bind_some, Option.map_some, Option.bind_none, Option.map_none, List.all_cons, List.all_nil, Sl.dp, Bool.and_true, Bool.true_and, and_self, and_true, true_and, if_true, if_false, ite_true, ite_false, Bool.false_eq_true, reduceCtorEq, reduceIte, Bool.not_true, Bool.not_false, gEq_str, gEq_int, gAdd_int, le_line, Nat.reduceLeDiff, Nat.reduceEqDiff, ne_eq, not_false_eq_true, cast_2, cast_3, cast_4, cast_5, cast_1, cast_0, eq_self, decide_true, decide_false, okR_of (j := 1 + d0) (by omega) (by omega)]
    refine ⟨len_line (by rw [upTo_length]; omega), wp_lcY (fun x => ∃ n : Int, x = .int n ∧ 0 ≤ n ∧ n ≤ 2) (fun x hx π => ⟨_, rfl, ?_⟩) fun fs π fl f2 => ?_⟩
    · simp (config := { failIfUnchanged := false }) only [mOf, mOfZ, mOfR, asB_b, asL_l, asT_t, asRt_rt, asRt_nx, wp_asRt, wp_asB, wp_asL, wp_asT, wp_bind, wp_map, wp_some, wp_fLc, wp_iR1, wp_iA, wp_iE, wp_iS, wp_iR2, caseA_l, caseA_t, caseL_l, caseT_t, caseB_b, caseI_i, caseS_s, entry, List.length_cons, List.length_nil, List.replicate, List.cons_append, List.nil_append, Nat.reduceAdd, Nat.reduceSub, fV, fVx, fC, fB, fBN, fU, fUN, fL, fIsi_ap, fAndV, fOrV, fNotV, fTv, fNotT, fAndT, fOrT, fIf, fIfN, fCh, fCl, fClN, aNil, aD, aN, aP, fNil, fCons, fTup, fLst, sNil, sSeq, sSet, sSetM, sRet, sRetN, sIf, sBrk, sCnt, sDrop, sFor, rSeq, sFrz, iL, iT, iZ, oNone, oSome, fSlA, fSlL, fPot, sPot, gPot, sPotN, tName, tTupG, tsCons, tsNil, sPar, sPar3, notP, sUnp, wipeE, sApp, sExt, sSetIx, List.getElem?_cons_zero, List.getElem?_cons_succ, List.set_cons_zero, List.set_cons_succ, Option.bind_some, Option.map_some, Option.bind_none, Option.map_none, List.all_cons, List.all_nil, Sl.dp, Bool.and_true, Bool.true_and, and_self, and_true, true_and, if_true, if_false, ite_true, ite_false, Bool.false_eq_true, reduceCtorEq, reduceIte, Bool.not_true, Bool.not_false, gEq_str, gEq_int, gAdd_int, le_line, Nat.reduceLeDiff, Nat.reduceEqDiff, ne_eq, not_false_eq_true, cast_2, cast_3, cast_4, cast_5, cast_1, cast_0, eq_self, decide_true, decide_false]
      refine pk.lst (by simp) (by simp) fun y π m => ?_
      simp only [List.mem_cons, List.not_mem_nil, or_false] at m
      rcases m with rfl | rfl | rfl | rfl | rfl <;> exact ⟨_, rfl, by omega, by omega⟩
    obtain ⟨fi, rfl, f3⟩ := ints_out f2
    rw [upTo_length, List.length_map] at fl
    have ix : L2.ixN (fi.map PyData.int).length 0 = some 0 := by rw [List.length_map]; exact ixN_pos (by omega) (by omega)
    have a0 := at_ints fi (n := 0) (by omega) (by omega)
    simp (config := { failIfUnchanged := false }) only [mOf, mOfZ, mOfR, asB_b, asL_l, asT_t, asRt_rt, asRt_nx, wp_asRt, wp_asB, wp_asL, wp_asT, wp_bind, wp_map, wp_some, wp_fLc, wp_iR1, wp_iA, wp_iE, wp_iS, wp_iR2, caseA_l, caseA_t, caseL_l, caseT_t, caseB_b, caseI_i, caseS_s, entry, List.length_cons, List.length_nil, List.replicate, List.cons_append, List.nil_append, Nat.reduceAdd, Nat.reduceSub, fV, fVx, fC, fB, fBN, fU, fUN, fL, fIsi_ap, fAndV, fOrV, fNotV, fTv, fNotT, fAndT, fOrT, fIf, fIfN, fCh, fCl, fClN, aNil, aD, aN, aP, fNil, fCons, fTup, fLst, sNil, sSeq, sSet, sSetM, sRet, sRetN, sIf, sBrk, sCnt, sDrop, sFor, rSeq, sFrz, iL, iT, iZ, oNone, oSome, fSlA, fSlL, fPot, sPot, gPot, sPotN, tName, tTupG, tsCons, tsNil, sPar, sPar3, notP, sUnp, wipeE, sApp, sExt, sSetIx, List.getElem?_cons_zero, List.getElem?_cons_succ, List.set_cons_zero, List.set_cons_succ, Option.bind_some, Option.map_some, Option.bind_none, Option.map_none, List.all_cons, List.all_nil, Sl.dp, Bool.and_true, Bool.true_and, and_self, and_true, true_and, if_true, if_false, ite_true, ite_false, Bool.false_eq_true, reduceCtorEq, reduceIte, Bool.not_true, Bool.not_false, gEq_str, gEq_int, gAdd_int, le_line, Nat.reduceLeDiff, Nat.reduceEqDiff, ne_eq, not_false_eq_true, cast_2, cast_3, cast_4, cast_5, cast_1, cast_0, eq_self, decide_true, decide_false, sSetIx, gMax2, gIx_lst, a0, ix]
    rw [← List.map_set]
    simp (config := { failIfUnchanged := false }) only [mOf, mOfZ, mOfR, asB_b, asL_l, asT_t, asRt_rt, asRt_nx, wp_asRt, wp_asB, wp_asL, wp_asT, wp_bind, wp_map, wp_some, wp_fLc, wp_iR1, wp_iA, wp_iE, wp_iS, wp_iR2, caseA_l, caseA_t, caseL_l, caseT_t, caseB_b, caseI_i, caseS_s, entry, List.length_cons, List.length_nil, List.replicate, List.cons_append, List.nil_append, Nat.reduceAdd, Nat.reduceSub, fV, fVx, fC, fB, fBN, fU, fUN, fL, fIsi_ap, fAndV, fOrV, fNotV, fTv, fNotT, fAndT, fOrT, fIf, fIfN, fCh, fCl, fClN, aNil, aD, aN, aP, fNil, fCons, fTup, fLst, sNil, sSeq, sSet, sSetM, sRet, sRetN, sIf, sBrk, sCnt, sDrop, sFor, rSeq, sFrz, iL, iT, iZ, oNone, oSome, fSlA, fSlL, fPot, sPot, gPot, sPotN, tName, tTupG, tsCons, tsNil, sPar, sPar3, notP, sUnp, wipeE, sApp, sExt, sSetIx, List.getElem?_cons_zero, List.getElem?_cons_succ, List.set_cons_zero, List.set_cons_succ, Option.bind_some, Option.map_some, Option.bind_none, Option.map_none, List.all_cons, List.all_nil, Sl.dp, Bool.and_true, Bool.true_and, and_self, and_true, true_and, if_true, if_false, ite_true, ite_false, Bool.false_eq_true, reduceCtorEq, reduceIte, Bool.not_true, Bool.not_false, gEq_str, gEq_int, gAdd_int, le_line, Nat.reduceLeDiff, Nat.reduceEqDiff, ne_eq, not_false_eq_true, cast_2, cast_3, cast_4, cast_5, cast_1, cast_0, eq_self, decide_true, decide_false, gTuple, okR_of (j := 1 + d0) (by omega) (by omega)]
    refine ⟨len_line (by rw [upTo_length]; omega), wp_lcY (fun x => ∃ n : Int, x = .int n ∧ 0 ≤ n ∧ n ≤ 2) (fun x hx π => ⟨_, rfl, ?_⟩) fun ls π ll l2 => ?_⟩
    · simp (config := { failIfUnchanged := false }) only [mOf, mOfZ, mOfR, asB_b, asL_l, asT_t, asRt_rt, asRt_nx, wp_asRt, wp_asB, wp_asL, wp_asT, wp_bind, wp_map, wp_some, wp_fLc, wp_iR1, wp_iA, wp_iE, wp_iS, wp_iR2, caseA_l, caseA_t, caseL_l, caseT_t, caseB_b, caseI_i, caseS_s, entry, List.length_cons, List.length_nil, List.replicate, List.cons_append, List.nil_append, Nat.reduceAdd, Nat.reduceSub, fV, fVx, fC, fB, fBN, fU, fUN, fL, fIsi_ap, fAndV, fOrV, fNotV, fTv, fNotT, fAndT, fOrT, fIf, fIfN, fCh, fCl, fClN, aNil, aD, aN, aP, fNil, fCons, fTup, fLst, sNil, sSeq, sSet, sSetM, sRet, sRetN, sIf, sBrk, sCnt, sDrop, sFor, rSeq, sFrz, iL, iT, iZ, oNone, oSome, fSlA, fSlL, fPot, sPot, gPot, sPotN, tName, tTupG, tsCons, tsNil, sPar, sPar3, notP, sUnp, wipeE, sApp, sExt, sSetIx, List.getElem?_cons_zero, List.getElem?_cons_succ, List.set_cons_zero, List.set_cons_succ, Option.bind_some, Option.map_some, Option.bind_none, Option.map_none, List.all_cons, List.all_nil, Sl.dp, Bool.and_true, Bool.true_and, and_self, and_true, true_and, if_true, if_false, ite_true, ite_false, Bool.false_eq_true, reduceCtorEq, reduceIte, Bool.not_true, Bool.not_false, gEq_str, gEq_int, gAdd_int, le_line, Nat.reduceLeDiff, Nat.reduceEqDiff, ne_eq, not_false_eq_true, cast_2, cast_3, cast_4, cast_5, cast_1, cast_0, eq_self, decide_true, decide_false]
      exact dr.wp (by omega) (by omega) fun y π m1 m2 => ⟨y, rfl, m1, by omega⟩
    obtain ⟨li, rfl, l3⟩ := ints_out l2
    rw [upTo_length, List.length_map] at ll
    refine h ⟨1 + d0, ts, fi.set 0 _, li⟩ π ⟨by show 1 ≤ 1 + d0; omega, by show 1 + d0 ≤ 16; omega, by show 1 ≤ ts.length; omega, by show ts.length ≤ 24; omega, ht, ⟨?_, ?_⟩, ⟨?_, ?_⟩⟩
    · show ((fi.set 0 _).length : Int) = 1 + d0
      rw [List.length_set]; omega
    · intro x hx
      rcases List.mem_or_eq_of_mem_set hx with q | q
      · have := f3 x q; omega
      · have h0 : fi.getD (0 : Int).toNat 0 ∈ fi := by
          have : 0 < fi.length := by omega
          rw [List.getD_eq_getElem?_getD]
          show (fi[0]?).getD 0 ∈ fi
          rw [List.getElem?_eq_getElem this]
          exact List.getElem_mem this
        have := f3 _ h0
        rw [q]
        split <;> omega
    · show (li.length : Int) = 1 + d0
      omega
    · intro x hx
      have := l3 x hx; omega
end Law11

set_option maxHeartbeats 4000000
namespace Law11
open PySem DL Pg
set_option autoImplicit false
theorem any_map {α : Type} (q : α → Bool) (xs : List α) : gAny (.list (xs.map fun x => PyData.bool (q x))) = some (.bool (xs.any q)) := by
  simp only [gAny, bools_map, Option.map_some, List.any_map]
  rfl
def lawB (S : Sht) (hs : List Int) (r : Int) : PyData := if S.can hs r = true then (if decide (maxI (S.late hs r) ≤ 9) = true then tup (S.late hs r) else .str "spills") else .str "not"
section
variable {S : Sht} {hs : List Int} {r : Int}
theorem e_law_behind (g : S.Ok) (st : Stand S.p hs) (h0 : 0 ≤ r) (h1 : r < S.ts.length) (π : Pt) : m__law_behind [.d S.d, .d (tup hs), .d (.int r)] π = some (lawB S hs r, π) := by
  have k := g.T h0 h1
  have kl := k.l1 g.p2
  have hl := st.len
  have hp2 := g.p2
  have at_ := Sht.at_ (S := S) h0 h1
  have hne := late_ne (r := r) g hl
  have ge0 : ∀ k : Nat, 0 ≤ hs.getD k 0 := fun k => by
    rw [List.getD_eq_getElem?_getD]
    by_cases hk : k < hs.length
    · rw [List.getElem?_eq_getElem hk]; exact (st.b _ (List.getElem_mem hk)).1
    · rw [List.getElem?_eq_none (by omega)]; exact Int.le_refl _
  have ca : ∀ ms : List Int, (ms.any fun n => decide (hs.getD n.toNat 0 = 0)) = !(ms.all fun n => decide (0 < hs.getD n.toNat 0)) := fun ms => by
    induction ms with
    | nil => rfl
    | cons m ms ih =>
      rw [List.any_cons, List.all_cons, ih, Bool.not_and]
      congr 1
      have := ge0 m.toNat
      generalize hs.getD m.toNat 0 = y at *
      by_cases h : y = 0
      · subst h; rfl
      · have h2 : 0 < y := by omega
        simp [h, h2]
  have any1 : ∀ s : Sl, fLc (iA (fV 4)) [7] (tName 7) bYes (fB (gEq false) (fB gIx (fVx 1) (fVx 7)) (fC (.int 0))) [.d S.d, .d (tup hs), .d (.int r), s, .d (tup (S.T r).tk), .d (tup (S.T r).gv), .e, .e, .e] π = some ((S.T r).tk.map fun n => PyData.bool (decide (hs.getD n.toNat 0 = 0)), π) := fun s => by
    have e : ((S.T r).tk.map PyData.int).map (ixI fun n => PyData.bool (decide (hs.getD n.toNat 0 = 0))) = (S.T r).tk.map fun n => PyData.bool (decide (hs.getD n.toNat 0 = 0)) := by
      rw [List.map_map]; rfl
    rw [← e]
    refine fLc_map (ds := (S.T r).tk.map PyData.int) (π1 := π) _ (by simp only [mOf, mOfZ, mOfR, asRt, entry, List.length_cons, List.length_nil, List.replicate, List.cons_append, List.nil_append, Nat.reduceAdd, Nat.reduceSub, fV, fVx, fC, fB, fBN, fU, fUN, fL, fIsi, fAndV, fOrV, fNotV, fTv, asB, asL, asT, fNotT, fAndT, fOrT, fIf, fIfN, fCh, fCl, fClN, aNil, aD, aN, aP, fNil, fCons, fTup, fLst, sNil, sSeq, sSet, sSetM, sRet, sRetN, sIf, sBrk, sCnt, sDrop, sFor, rSeq, sFrz, iL, iT, iS, iE, iZ, oNone, oSome, fSlA, fSlL, fPot, sPot, gPot, sPotN, List.getElem?_cons_zero, List.getElem?_cons_succ, List.set_cons_zero, List.set_cons_succ, Option.bind_some, Option.map_some, Option.bind_none, Option.map_none, List.all_cons, List.all_nil, Sl.dp, Bool.and_true, Bool.true_and, and_self, and_true, true_and, if_true, if_false, ite_true, ite_false, Bool.false_eq_true, reduceCtorEq, reduceIte, Bool.not_true, Bool.not_false, gEq_str, gEq_int, gAdd_int, le_line, Nat.reduceLeDiff, Nat.reduceEqDiff, ne_eq, not_false_eq_true, cast_2, cast_3, cast_4, cast_5, cast_1, cast_0, eq_self, decide_true, decide_false, iA]) (len_line (by rw [List.length_map]; omega)) fun x hx => ?_
    obtain ⟨n, hn, rfl⟩ := List.mem_map.mp hx
    obtain ⟨h0, h1⟩ := k.i1 n hn
    exact ⟨_, rfl, rfl, by simp only [mOf, mOfZ, mOfR, asRt, entry, List.length_cons, List.length_nil, List.replicate, List.cons_append, List.nil_append, Nat.reduceAdd, Nat.reduceSub, fV, fVx, fC, fB, fBN, fU, fUN, fL, fIsi, fAndV, fOrV, fNotV, fTv, asB, asL, asT, fNotT, fAndT, fOrT, fIf, fIfN, fCh, fCl, fClN, aNil, aD, aN, aP, fNil, fCons, fTup, fLst, sNil, sSeq, sSet, sSetM, sRet, sRetN, sIf, sBrk, sCnt, sDrop, sFor, rSeq, sFrz, iL, iT, iS, iE, iZ, oNone, oSome, fSlA, fSlL, fPot, sPot, gPot, sPotN, List.getElem?_cons_zero, List.getElem?_cons_succ, List.set_cons_zero, List.set_cons_succ, Option.bind_some, Option.map_some, Option.bind_none, Option.map_none, List.all_cons, List.all_nil, Sl.dp, Bool.and_true, Bool.true_and, and_self, and_true, true_and, if_true, if_false, ite_true, ite_false, Bool.false_eq_true, reduceCtorEq, reduceIte, Bool.not_true, Bool.not_false, gEq_str, gEq_int, gAdd_int, le_line, Nat.reduceLeDiff, Nat.reduceEqDiff, ne_eq, not_false_eq_true, cast_2, cast_3, cast_4, cast_5, cast_1, cast_0, eq_self, decide_true, decide_false, wipeE, gIx_tup, at_ints hs h0 (by omega), ixI]⟩
  have late1 : ∀ s : Sl, fLc (iE (fV 1)) [7, 8] (tTupG (tsCons (tName 7) (tsCons (tName 8) tsNil)) 2) bYes (fB gAdd (fB gSubI (fVx 8) (fU gInt (fB (gIn false) (fVx 7) (fVx 4)))) (fU gInt (fB (gIn false) (fVx 7) (fVx 5)))) [.d S.d, .d (tup hs), .d (.int r), s, .d (tup (S.T r).tk), .d (tup (S.T r).gv), .e, .e, .e] π = some ((S.late hs r).map PyData.int, π) := fun s => by
    have e : (numb (hs.map PyData.int)).map (fun x => match x with | .tuple [.int i, .int x] => PyData.int (x - b2 (decide (i ∈ (S.T r).tk)) + b2 (decide (i ∈ (S.T r).gv))) | _ => .none) = (lawLate hs (S.T r).tk (S.T r).gv).map PyData.int := by
      unfold numb lawLate
      rw [List.zipIdx_map, List.map_map, List.map_map, List.map_map]
      rfl
    rw [Sht.late, ← late_eq k.r1 k.r2 (fun n hn => (k.i1 n hn).1) fun n hn => (k.i2 n hn).1, ← e]
    refine fLc_map (ds := numb (hs.map PyData.int)) (π1 := π) _ (by simp only [mOf, mOfZ, mOfR, asRt, entry, List.length_cons, List.length_nil, List.replicate, List.cons_append, List.nil_append, Nat.reduceAdd, Nat.reduceSub, fV, fVx, fC, fB, fBN, fU, fUN, fL, fIsi, fAndV, fOrV, fNotV, fTv, asB, asL, asT, fNotT, fAndT, fOrT, fIf, fIfN, fCh, fCl, fClN, aNil, aD, aN, aP, fNil, fCons, fTup, fLst, sNil, sSeq, sSet, sSetM, sRet, sRetN, sIf, sBrk, sCnt, sDrop, sFor, rSeq, sFrz, iL, iT, iS, iE, iZ, oNone, oSome, fSlA, fSlL, fPot, sPot, gPot, sPotN, List.getElem?_cons_zero, List.getElem?_cons_succ, List.set_cons_zero, List.set_cons_succ, Option.bind_some, Option.map_some, Option.bind_none, Option.map_none, List.all_cons, List.all_nil, Sl.dp, Bool.and_true, Bool.true_and, and_self, and_true, true_and, if_true, if_false, ite_true, ite_false, Bool.false_eq_true, reduceCtorEq, reduceIte, Bool.not_true, Bool.not_false, gEq_str, gEq_int, gAdd_int, le_line, Nat.reduceLeDiff, Nat.reduceEqDiff, ne_eq, not_false_eq_true, cast_2, cast_3, cast_4, cast_5, cast_1, cast_0, eq_self, decide_true, decide_false]) (len_line (by rw [numb_length, List.length_map]; omega)) fun x hx => ?_
    obtain ⟨i, y, rfl, hy, _⟩ := numb_mem hx
    obtain ⟨z, hz, rfl⟩ := List.mem_map.mp hy
    exact ⟨_, rfl, rfl, by simp only [mOf, mOfZ, mOfR, asRt, entry, List.length_cons, List.length_nil, List.replicate, List.cons_append, List.nil_append, Nat.reduceAdd, Nat.reduceSub, fV, fVx, fC, fB, fBN, fU, fUN, fL, fIsi, fAndV, fOrV, fNotV, fTv, asB, asL, asT, fNotT, fAndT, fOrT, fIf, fIfN, fCh, fCl, fClN, aNil, aD, aN, aP, fNil, fCons, fTup, fLst, sNil, sSeq, sSet, sSetM, sRet, sRetN, sIf, sBrk, sCnt, sDrop, sFor, rSeq, sFrz, iL, iT, iS, iE, iZ, oNone, oSome, fSlA, fSlL, fPot, sPot, gPot, sPotN, List.getElem?_cons_zero, List.getElem?_cons_succ, List.set_cons_zero, List.set_cons_succ, Option.bind_some, Option.map_some, Option.bind_none, Option.map_none, List.all_cons, List.all_nil, Sl.dp, Bool.and_true, Bool.true_and, and_self, and_true, true_and, if_true, if_false, ite_true, ite_false, Bool.false_eq_true, reduceCtorEq, reduceIte, Bool.not_true, Bool.not_false, gEq_str, gEq_int, gAdd_int, le_line, Nat.reduceLeDiff, Nat.reduceEqDiff, ne_eq, not_false_eq_true, cast_2, cast_3, cast_4, cast_5, cast_1, cast_0, eq_self, decide_true, decide_false, wipeE, gInT_ints, gInt, gSubI]⟩
  have cb := ca (S.T r).tk
  have e9 : decide (9 < maxI (S.late hs r)) = !decide (maxI (S.late hs r) ≤ 9) := by
    by_cases h : maxI (S.late hs r) ≤ 9
    · have h2 : ¬ 9 < maxI (S.late hs r) := by omega
      simp [h, h2]
    · have h2 : 9 < maxI (S.late hs r) := by omega
      simp [h, h2]
  unfold m__law_behind g__law_behind lawB
  have hcn : S.can hs r = ((S.T r).tk.all fun n => decide (0 < hs.getD n.toNat 0)) := rfl
  rw [← hcn] at cb
  cases hc : S.can hs r with
  | false =>
    rw [hc] at cb
    simp only [mOf, mOfZ, mOfR, asRt, entry, List.length_cons, List.length_nil, List.replicate, List.cons_append, List.nil_append, Nat.reduceAdd, Nat.reduceSub, fV, fVx, fC, fB, fBN, fU, fUN, fL, fIsi, fAndV, fOrV, fNotV, fTv, asB, asL, asT, fNotT, fAndT, fOrT, fIf, fIfN, fCh, fCl, fClN, aNil, aD, aN, aP, fNil, fCons, fTup, fLst, sNil, sSeq, sSet, sSetM, sRet, sRetN, sIf, sBrk, sCnt, sDrop, sFor, rSeq, sFrz, iL, iT, iS, iE, iZ, oNone, oSome, fSlA, fSlL, fPot, sPot, gPot, sPotN, List.getElem?_cons_zero, List.getElem?_cons_succ, List.set_cons_zero, List.set_cons_succ, Option.bind_some, Option.map_some, Option.bind_none, Option.map_none, List.all_cons, List.all_nil, Sl.dp, Bool.and_true, Bool.true_and, and_self, and_true, true_and, if_true, if_false, ite_true, ite_false, Bool.false_eq_true, reduceCtorEq, reduceIte, Bool.not_true, Bool.not_false, gEq_str, gEq_int, gAdd_int, le_line, Nat.reduceLeDiff, Nat.reduceEqDiff, ne_eq, not_false_eq_true, cast_2, cast_3, cast_4, cast_5, cast_1, cast_0, eq_self, decide_true, decide_false, sUnp, gIx_tup, atI_2, at_, tTupG, tsCons, tName, tsNil, any1, any_map, cb]
  | true =>
    rw [hc] at cb
    cases hm : decide (maxI (S.late hs r) ≤ 9) <;> simp only [mOf, mOfZ, mOfR, asRt, entry, List.length_cons, List.length_nil, List.replicate, List.cons_append, List.nil_append, Nat.reduceAdd, Nat.reduceSub, fV, fVx, fC, fB, fBN, fU, fUN, fL, fIsi, fAndV, fOrV, fNotV, fTv, asB, asL, asT, fNotT, fAndT, fOrT, fIf, fIfN, fCh, fCl, fClN, aNil, aD, aN, aP, fNil, fCons, fTup, fLst, sNil, sSeq, sSet, sSetM, sRet, sRetN, sIf, sBrk, sCnt, sDrop, sFor, rSeq, sFrz, iL, iT, iS, iE, iZ, oNone, oSome, fSlA, fSlL, fPot, sPot, gPot, sPotN, List.getElem?_cons_zero, List.getElem?_cons_succ, List.set_cons_zero, List.set_cons_succ, Option.bind_some, Option.map_some, Option.bind_none, Option.map_none, List.all_cons, List.all_nil, Sl.dp, Bool.and_true, Bool.true_and, and_self, and_true, true_and, if_true, if_false, ite_true, ite_false, Bool.false_eq_true, reduceCtorEq, reduceIte, Bool.not_true, Bool.not_false, gEq_str, gEq_int, gAdd_int, le_line, Nat.reduceLeDiff, Nat.reduceEqDiff, ne_eq, not_false_eq_true, cast_2, cast_3, cast_4, cast_5, cast_1, cast_0, eq_self, decide_true, decide_false, sUnp, gIx_tup, atI_2, at_, tTupG, tsCons, tName, tsNil, any1, any_map, cb, late1, gMaxL, ints_map, hne, gGt, gCmp, e9, hm, gTuple]
abbrev gGone : MS := (sSeq (sSet 6 (fCl 3 m__law_behind (aD (fV 0) (aD (fV 3) (aD (fV 5) aNil))))) (sSeq (sIf (fTv (fIsi "str" (fVx 6))) (sRet (fTup (fCons (fTup (fCons (fV 4) (fCons (fV 6) fNil))) (fCons (fC .none) fNil)))) sNil) (sSet 3 (fV 6))))
theorem gone_loop (g : S.Ok) (s1 s2 : Sl) (π : Pt) : ∀ (rs : List Int) (k : Nat) (hs : List Int) (s4 s5 s6 : Sl), Stand S.p hs → (∀ r ∈ rs, 0 ≤ r ∧ r < S.ts.length) →
    (match S.gone hs k rs with
    | (none, some hs') => ∃ s4' s5' s6', DL.forM (tTupG (tsCons (tName 4) (tsCons (tName 5) tsNil)) 2) gGone (numbFrom k (rs.map PyData.int)) [.d S.d, s1, s2, .d (tup hs), s4, s5, s6] π = some (.nx [.d S.d, s1, s2, .d (tup hs'), s4', s5', s6'], π)
    | (f, h) => DL.forM (tTupG (tsCons (tName 4) (tsCons (tName 5) tsNil)) 2) gGone (numbFrom k (rs.map PyData.int)) [.d S.d, s1, s2, .d (tup hs), s4, s5, s6] π = some (.rt (.tuple [flawD f, hereD h]), π))
  | [], k, hs, s4, s5, s6, _, _ => ⟨s4, s5, s6, rfl⟩
  | r :: rs, k, hs, s4, s5, s6, st, hr => by
    obtain ⟨r0, r1⟩ := hr r List.mem_cons_self
    have lb := fun π => e_law_behind g st r0 r1 π
    rw [List.map_cons, numbFrom_cons]
    unfold DL.forM Sht.gone
    cases hc : S.can hs r with
    | false =>
      have e : lawB S hs r = .str "not" := by unfold lawB; rw [hc]; rfl
      simp only [mOf, mOfZ, mOfR, asRt, entry, List.length_cons, List.length_nil, List.replicate, List.cons_append, List.nil_append, Nat.reduceAdd, Nat.reduceSub, fV, fVx, fC, fB, fBN, fU, fUN, fL, fIsi, fAndV, fOrV, fNotV, fTv, asB, asL, asT, fNotT, fAndT, fOrT, fIf, fIfN, fCh, fCl, fClN, aNil, aD, aN, aP, fNil, fCons, fTup, fLst, sNil, sSeq, sSet, sSetM, sRet, sRetN, sIf, sBrk, sCnt, sDrop, sFor, rSeq, sFrz, iL, iT, iS, iE, iZ, oNone, oSome, fSlA, fSlL, fPot, sPot, gPot, sPotN, List.getElem?_cons_zero, List.getElem?_cons_succ, List.set_cons_zero, List.set_cons_succ, Option.bind_some, Option.map_some, Option.bind_none, Option.map_none, List.all_cons, List.all_nil, Sl.dp, Bool.and_true, Bool.true_and, and_self, and_true, true_and, if_true, if_false, ite_true, ite_false, Bool.false_eq_true, reduceCtorEq, reduceIte, Bool.not_true, Bool.not_false, gEq_str, gEq_int, gAdd_int, le_line, Nat.reduceLeDiff, Nat.reduceEqDiff, ne_eq, not_false_eq_true, cast_2, cast_3, cast_4, cast_5, cast_1, cast_0, eq_self, decide_true, decide_false, tTupG, tsCons, tName, tsNil, lb, e, isi_str, dStr, flawD, hereD]
    | true =>
      cases hm : decide (maxI (S.late hs r) ≤ 9) with
      | false =>
        have e : lawB S hs r = .str "spills" := by unfold lawB; rw [hc, hm]; rfl
        simp only [mOf, mOfZ, mOfR, asRt, entry, List.length_cons, List.length_nil, List.replicate, List.cons_append, List.nil_append, Nat.reduceAdd, Nat.reduceSub, fV, fVx, fC, fB, fBN, fU, fUN, fL, fIsi, fAndV, fOrV, fNotV, fTv, asB, asL, asT, fNotT, fAndT, fOrT, fIf, fIfN, fCh, fCl, fClN, aNil, aD, aN, aP, fNil, fCons, fTup, fLst, sNil, sSeq, sSet, sSetM, sRet, sRetN, sIf, sBrk, sCnt, sDrop, sFor, rSeq, sFrz, iL, iT, iS, iE, iZ, oNone, oSome, fSlA, fSlL, fPot, sPot, gPot, sPotN, List.getElem?_cons_zero, List.getElem?_cons_succ, List.set_cons_zero, List.set_cons_succ, Option.bind_some, Option.map_some, Option.bind_none, Option.map_none, List.all_cons, List.all_nil, Sl.dp, Bool.and_true, Bool.true_and, and_self, and_true, true_and, if_true, if_false, ite_true, ite_false, Bool.false_eq_true, reduceCtorEq, reduceIte, Bool.not_true, Bool.not_false, gEq_str, gEq_int, gAdd_int, le_line, Nat.reduceLeDiff, Nat.reduceEqDiff, ne_eq, not_false_eq_true, cast_2, cast_3, cast_4, cast_5, cast_1, cast_0, eq_self, decide_true, decide_false, tTupG, tsCons, tName, tsNil, lb, e, isi_str, dStr, flawD, hereD]
      | true =>
        have e : lawB S hs r = tup (S.late hs r) := by unfold lawB; rw [hc, hm]; rfl
        have ih := gone_loop g s1 s2 π rs (k + 1) (S.late hs r) (.d (.int (k : Int))) (.d (.int r)) (.d (tup (S.late hs r))) (late_stand g st r0 r1 hc (of_decide_eq_true hm)) fun q hq => hr q (List.mem_cons_of_mem _ hq)
        have ek : ((k + 1 : Nat) : Int) = (k : Int) + 1 := by omega
        rw [ek] at ih
        simp only [mOf, mOfZ, mOfR, asRt, entry, List.length_cons, List.length_nil, List.replicate, List.cons_append, List.nil_append, Nat.reduceAdd, Nat.reduceSub, fV, fVx, fC, fB, fBN, fU, fUN, fL, fIsi, fAndV, fOrV, fNotV, fTv, asB, asL, asT, fNotT, fAndT, fOrT, fIf, fIfN, fCh, fCl, fClN, aNil, aD, aN, aP, fNil, fCons, fTup, fLst, sNil, sSeq, sSet, sSetM, sRet, sRetN, sIf, sBrk, sCnt, sDrop, sFor, rSeq, sFrz, iL, iT, iS, iE, iZ, oNone, oSome, fSlA, fSlL, fPot, sPot, gPot, sPotN, List.getElem?_cons_zero, List.getElem?_cons_succ, List.set_cons_zero, List.set_cons_succ, Option.bind_some, Option.map_some, Option.bind_none, Option.map_none, List.all_cons, List.all_nil, Sl.dp, Bool.and_true, Bool.true_and, and_self, and_true, true_and, if_true, if_false, ite_true, ite_false, Bool.false_eq_true, reduceCtorEq, reduceIte, Bool.not_true, Bool.not_false, gEq_str, gEq_int, gAdd_int, le_line, Nat.reduceLeDiff, Nat.reduceEqDiff, ne_eq, not_false_eq_true, cast_2, cast_3, cast_4, cast_5, cast_1, cast_0, eq_self, decide_true, decide_false, tTupG, tsCons, tName, tsNil, lb, e, isi_str, dStr]
        exact ih
theorem e_law_gone (g : S.Ok) (l : Bool) (rs hs : List Int) (st : Stand S.p hs) (hr : ∀ r ∈ rs, 0 ≤ r ∧ r < S.ts.length) (π : Pt) :
    m__law_gone [.d S.d, .d (tup hs), .d (runD l rs)] π = some (.tuple [flawD (S.gone hs 0 rs).1, hereD (S.gone hs 0 rs).2], π) := by
  have key := gone_loop g (.d (tup hs)) (.d (runD l rs)) π rs 0 hs .e .e .e st hr
  have ek : ((0 : Nat) : Int) = 0 := rfl
  rw [ek, ← numb_0] at key
  unfold m__law_gone g__law_gone
  refine wp_eq ?_
  simp (config := { failIfUnchanged := false }) only [mOf, mOfZ, mOfR, asB_b, asL_l, asT_t, asRt_rt, asRt_nx, wp_asRt, wp_asB, wp_asL, wp_asT, wp_bind, wp_map, wp_some, wp_fLc, wp_iR1, wp_iA, wp_iE, wp_iS, wp_iR2, caseA_l, caseA_t, caseL_l, caseT_t, caseB_b, caseI_i, caseS_s, entry, List.length_cons, List.length_nil, List.replicate, List.cons_append, List.nil_append, Nat.reduceAdd, Nat.reduceSub, fV, fVx, fC, fB, fBN, fU, fUN, fL, fIsi_ap, fAndV, fOrV, fNotV, fTv, fNotT, fAndT, fOrT, fIf, fIfN, fCh, fCl, fClN, aNil, aD, aN, aP, fNil, fCons, fTup, fLst, sNil, sSeq, sSet, sSetM, sRet, sRetN, sIf, sBrk, sCnt, sDrop, sFor, rSeq, sFrz, iL, iT, iZ, oNone, oSome, fSlA, fSlL, fPot, sPot, gPot, sPotN, tName, tTupG, tsCons, tsNil, sPar, sPar3, notP, sUnp, wipeE, sApp, sExt, sSetIx, List.getElem?_cons_zero, List.getElem?_cons_succ, List.set_cons_zero, List.set_cons_succ, Option.bind_some, Option.map_some, Option.bind_none, Option.map_none, List.all_cons, List.all_nil, Sl.dp, Bool.and_true, Bool.true_and, and_self, and_true, true_and, if_true, if_false, ite_true, ite_false, Bool.false_eq_true, reduceCtorEq, reduceIte, Bool.not_true, Bool.not_false, gEq_str, gEq_int, gAdd_int, le_line, Nat.reduceLeDiff, Nat.reduceEqDiff, ne_eq, not_false_eq_true, cast_2, cast_3, cast_4, cast_5, cast_1, cast_0, eq_self, decide_true, decide_false, caseA_run]
  rcases gone_shape S rs hs 0 with ⟨h, e⟩ | ⟨f, e⟩
  · rw [e] at key ⊢
    obtain ⟨s4, s5, s6, e2⟩ := key
    rw [e2]
    simp (config := { failIfUnchanged := false }) only [mOf, mOfZ, mOfR, asB_b, asL_l, asT_t, asRt_rt, asRt_nx, wp_asRt, wp_asB, wp_asL, wp_asT, wp_bind, wp_map, wp_some, wp_fLc, wp_iR1, wp_iA, wp_iE, wp_iS, wp_iR2, caseA_l, caseA_t, caseL_l, caseT_t, caseB_b, caseI_i, caseS_s, entry, List.length_cons, List.length_nil, List.replicate, List.cons_append, List.nil_append, Nat.reduceAdd, Nat.reduceSub, fV, fVx, fC, fB, fBN, fU, fUN, fL, fIsi_ap, fAndV, fOrV, fNotV, fTv, fNotT, fAndT, fOrT, fIf, fIfN, fCh, fCl, fClN, aNil, aD, aN, aP, fNil, fCons, fTup, fLst, sNil, sSeq, sSet, sSetM, sRet, sRetN, sIf, sBrk, sCnt, sDrop, sFor, rSeq, sFrz, iL, iT, iZ, oNone, oSome, fSlA, fSlL, fPot, sPot, gPot, sPotN, tName, tTupG, tsCons, tsNil, sPar, sPar3, notP, sUnp, wipeE, sApp, sExt, sSetIx, List.getElem?_cons_zero, List.getElem?_cons_succ, List.set_cons_zero, List.set_cons_succ, Option.bind_some, Option.map_some, Option.bind_none, Option.map_none, List.all_cons, List.all_nil, Sl.dp, Bool.and_true, Bool.true_and, and_self, and_true, true_and, if_true, if_false, ite_true, ite_false, Bool.false_eq_true, reduceCtorEq, reduceIte, Bool.not_true, Bool.not_false, gEq_str, gEq_int, gAdd_int, le_line, Nat.reduceLeDiff, Nat.reduceEqDiff, ne_eq, not_false_eq_true, cast_2, cast_3, cast_4, cast_5, cast_1, cast_0, eq_self, decide_true, decide_false, flawD, hereD]
  · rw [e] at key ⊢
    rw [key]
    simp (config := { failIfUnchanged := false }) only [mOf, mOfZ, mOfR, asB_b, asL_l, asT_t, asRt_rt, asRt_nx, wp_asRt, wp_asB, wp_asL, wp_asT, wp_bind, wp_map, wp_some, wp_fLc, wp_iR1, wp_iA, wp_iE, wp_iS, wp_iR2, caseA_l, caseA_t, caseL_l, caseT_t, caseB_b, caseI_i, caseS_s, entry, List.length_cons, List.length_nil, List.replicate, List.cons_append, List.nil_append, Nat.reduceAdd, Nat.reduceSub, fV, fVx, fC, fB, fBN, fU, fUN, fL, fIsi_ap, fAndV, fOrV, fNotV, fTv, fNotT, fAndT, fOrT, fIf, fIfN, fCh, fCl, fClN, aNil, aD, aN, aP, fNil, fCons, fTup, fLst, sNil, sSeq, sSet, sSetM, sRet, sRetN, sIf, sBrk, sCnt, sDrop, sFor, rSeq, sFrz, iL, iT, iZ, oNone, oSome, fSlA, fSlL, fPot, sPot, gPot, sPotN, tName, tTupG, tsCons, tsNil, sPar, sPar3, notP, sUnp, wipeE, sApp, sExt, sSetIx, List.getElem?_cons_zero, List.getElem?_cons_succ, List.set_cons_zero, List.set_cons_succ, Option.bind_some, Option.map_some, Option.bind_none, Option.map_none, List.all_cons, List.all_nil, Sl.dp, Bool.and_true, Bool.true_and, and_self, and_true, true_and, if_true, if_false, ite_true, ite_false, Bool.false_eq_true, reduceCtorEq, reduceIte, Bool.not_true, Bool.not_false, gEq_str, gEq_int, gAdd_int, le_line, Nat.reduceLeDiff, Nat.reduceEqDiff, ne_eq, not_false_eq_true, cast_2, cast_3, cast_4, cast_5, cast_1, cast_0, eq_self, decide_true, decide_false]
end
end Law11

set_option maxHeartbeats 4000000
namespace Law11
open PySem DL Pg
set_option autoImplicit false
theorem shaped_str {z : Str} (h : PyData.strOk z = true) : SeqAt.shaped (.str z) = true := by
  simp [SeqAt.shaped, PyData.canLay0, h, PyData.depth]
section
variable {S : Sht} {hs : List Int} {r : Int}
theorem neNot (S : Sht) (hs : List Int) (r : Int) : gEq true (lawB S hs r) (.str "not") = some (.bool (S.can hs r)) := by
  unfold lawB
  have sN : SeqAt.shaped (.str "not") = true := shaped_str (by decide +kernel)
  cases hc : S.can hs r with
  | false => rfl
  | true =>
    cases hm : decide (maxI (S.late hs r) ≤ 9) with
    | false =>
      show gEq true (.str "spills") (.str "not") = _
      rw [gEq_str]
      have : decide (("spills" : Str) = "not") = false := by decide +kernel
      rw [this]; rfl
    | true =>
      have e : PyData.eqv (tup (S.late hs r)) (.str "not") = false := by simp [PyData.eqv]
      show gEq true (tup (S.late hs r)) (.str "not") = _
      simp only [gEq, shapedT_ints, sN, and_self, if_true, e, Bool.not_false]
theorem isStrB (S : Sht) (hs : List Int) (r : Int) : gIsi "str" (lawB S hs r) = some (.bool (!(S.can hs r && decide (maxI (S.late hs r) ≤ 9)))) := by
  rw [isi_str]
  unfold lawB
  cases hc : S.can hs r with
  | false => rfl
  | true => cases hm : decide (maxI (S.late hs r) ≤ 9) <;> rfl
theorem gone_one (S : Sht) (hs : List Int) (r i : Int) : (S.gone hs i [r]).2 = if (S.can hs r && decide (maxI (S.late hs r) ≤ 9)) = true then some (S.late hs r) else none := by
  unfold Sht.gone
  cases hc : S.can hs r with
  | false => rfl
  | true => cases hm : decide (maxI (S.late hs r) ≤ 9) <;> rfl
theorem lawB_some (h : (S.can hs r && decide (maxI (S.late hs r) ≤ 9)) = true) : lawB S hs r = tup (S.late hs r) := by
  obtain ⟨h1, h2⟩ := Bool.and_eq_true_iff.mp h
  unfold lawB
  rw [h1, h2]; rfl
theorem here_bs (g : S.Ok) {o : Option (List Int)} (h : ∀ x, o = some x → Stand S.p x) : Bs 1104 1 (hereD o) := by
  cases o with
  | none => exact Bs.none.mono (by decide) (by decide)
  | some x => exact (h x rfl).bs g.p2
theorem one_mem {r q : Int} {n : Nat} (h0 : 0 ≤ r) (h1 : r < n) (h : q ∈ [r]) : 0 ≤ q ∧ q < n := by
  rw [List.mem_singleton] at h; rw [h]; exact ⟨h0, h1⟩
theorem e_steps_right (g : S.Ok) (st : Stand S.p hs) (π : Pt) : m__law_steps_right [.d S.d, .d (tup hs)] π = some (.bool true, π) := by
  have ht2 := g.t2
  have due : ∀ s : Sl, fLc (iR1 (fU gLen (fB gIx (fVx 0) (fC (.int 2))))) [3] (tName 3) (fTv (fB (gEq true) (fCl 3 m__law_behind (aD (fV 0) (aD (fV 1) (aD (fV 3) aNil)))) (fC (.str "not")))) (fV 3) [.d S.d, .d (tup hs), s, .e, .e] π = some ((S.do hs).map PyData.int, π) := fun s => by
    have e : (S.do hs).map PyData.int = (((ups S.ts.length).map PyData.int).filter (ixB (S.can hs))).map (ixI PyData.int) := by
      rw [fltI, Sht.do]
    rw [e]
    refine fLc_pure (ds := (ups S.ts.length).map PyData.int) (π1 := π) (ixB (S.can hs)) (ixI PyData.int) (iR1_of (by simp only [mOf, mOfZ, mOfR, asRt, entry, List.length_cons, List.length_nil, List.replicate, List.cons_append, List.nil_append, Nat.reduceAdd, Nat.reduceSub, fV, fVx, fC, fB, fBN, fU, fUN, fL, fIsi, fAndV, fOrV, fNotV, fTv, asB, asL, asT, fNotT, fAndT, fOrT, fIf, fIfN, fCh, fCl, fClN, aNil, aD, aN, aP, fNil, fCons, fTup, fLst, sNil, sSeq, sSet, sSetM, sRet, sRetN, sIf, sBrk, sCnt, sDrop, sFor, rSeq, sFrz, iL, iT, iS, iE, iZ, oNone, oSome, fSlA, fSlL, fPot, sPot, gPot, sPotN, List.getElem?_cons_zero, List.getElem?_cons_succ, List.set_cons_zero, List.set_cons_succ, Option.bind_some, Option.map_some, Option.bind_none, Option.map_none, List.all_cons, List.all_nil, Sl.dp, Bool.and_true, Bool.true_and, and_self, and_true, true_and, if_true, if_false, ite_true, ite_false, Bool.false_eq_true, reduceCtorEq, reduceIte, Bool.not_true, Bool.not_false, gEq_str, gEq_int, gAdd_int, le_line, Nat.reduceLeDiff, Nat.reduceEqDiff, ne_eq, not_false_eq_true, cast_2, cast_3, cast_4, cast_5, cast_1, cast_0, eq_self, decide_true, decide_false, gIx_tup, atI_2, gLen_tup, List.length_map]) (by omega)) (len_line (by rw [List.length_map, ups_len]; omega)) fun x hx => ?_
    obtain ⟨r, hr, rfl⟩ := List.mem_map.mp hx
    obtain ⟨r0, r1⟩ := ups_mem hr
    refine ⟨_, rfl, ?_, fun _ => ?_⟩
    · simp only [mOf, mOfZ, mOfR, asRt, entry, List.length_cons, List.length_nil, List.replicate, List.cons_append, List.nil_append, Nat.reduceAdd, Nat.reduceSub, fV, fVx, fC, fB, fBN, fU, fUN, fL, fIsi, fAndV, fOrV, fNotV, fTv, asB, asL, asT, fNotT, fAndT, fOrT, fIf, fIfN, fCh, fCl, fClN, aNil, aD, aN, aP, fNil, fCons, fTup, fLst, sNil, sSeq, sSet, sSetM, sRet, sRetN, sIf, sBrk, sCnt, sDrop, sFor, rSeq, sFrz, iL, iT, iS, iE, iZ, oNone, oSome, fSlA, fSlL, fPot, sPot, gPot, sPotN, List.getElem?_cons_zero, List.getElem?_cons_succ, List.set_cons_zero, List.set_cons_succ, Option.bind_some, Option.map_some, Option.bind_none, Option.map_none, List.all_cons, List.all_nil, Sl.dp, Bool.and_true, Bool.true_and, and_self, and_true, true_and, if_true, if_false, ite_true, ite_false, Bool.false_eq_true, reduceCtorEq, reduceIte, Bool.not_true, Bool.not_false, gEq_str, gEq_int, gAdd_int, le_line, Nat.reduceLeDiff, Nat.reduceEqDiff, ne_eq, not_false_eq_true, cast_2, cast_3, cast_4, cast_5, cast_1, cast_0, eq_self, decide_true, decide_false, wipeE, e_law_behind g st r0 r1, neNot, ixB]
    · simp only [mOf, mOfZ, mOfR, asRt, entry, List.length_cons, List.length_nil, List.replicate, List.cons_append, List.nil_append, Nat.reduceAdd, Nat.reduceSub, fV, fVx, fC, fB, fBN, fU, fUN, fL, fIsi, fAndV, fOrV, fNotV, fTv, asB, asL, asT, fNotT, fAndT, fOrT, fIf, fIfN, fCh, fCl, fClN, aNil, aD, aN, aP, fNil, fCons, fTup, fLst, sNil, sSeq, sSet, sSetM, sRet, sRetN, sIf, sBrk, sCnt, sDrop, sFor, rSeq, sFrz, iL, iT, iS, iE, iZ, oNone, oSome, fSlA, fSlL, fPot, sPot, gPot, sPotN, List.getElem?_cons_zero, List.getElem?_cons_succ, List.set_cons_zero, List.set_cons_succ, Option.bind_some, Option.map_some, Option.bind_none, Option.map_none, List.all_cons, List.all_nil, Sl.dp, Bool.and_true, Bool.true_and, and_self, and_true, true_and, if_true, if_false, ite_true, ite_false, Bool.false_eq_true, reduceCtorEq, reduceIte, Bool.not_true, Bool.not_false, gEq_str, gEq_int, gAdd_int, le_line, Nat.reduceLeDiff, Nat.reduceEqDiff, ne_eq, not_false_eq_true, cast_2, cast_3, cast_4, cast_5, cast_1, cast_0, eq_self, decide_true, decide_false, wipeE, ixI]
  have bdo : Bs 2000 1 (.list ((S.do hs).map PyData.int)) := (Bs.lst (Bss.ints (n := 24) (ns := S.do hs) (fun n hn => by
    have := ups_mem (List.mem_filter.mp hn).1
    omega) (by
      have := List.length_filter_le (S.can hs) (ups S.ts.length)
      rw [ups_len] at this
      unfold Sht.do; omega))).mono (by decide) (by decide)
  have rp := (Bs.l2 bdo bdo).repr (by decide) (by decide)
  unfold m__law_steps_right g__law_steps_right
  refine wp_eq ?_
  simp (config := { failIfUnchanged := false }) only [mOf, mOfZ, mOfR, asB_b, asL_l, asT_t, asRt_rt, asRt_nx, wp_asRt, wp_asB, wp_asL, wp_asT, wp_bind, wp_map, wp_some, wp_fLc, wp_iR1, wp_iA, wp_iE, wp_iS, wp_iR2, caseA_l, caseA_t, caseL_l, caseT_t, caseB_b, caseI_i, caseS_s, entry, List.length_cons, List.length_nil, List.replicate, List.cons_append, List.nil_append, Nat.reduceAdd, Nat.reduceSub, fV, fVx, fC, fB, fBN, fU, fUN, fL, fIsi_ap, fAndV, fOrV, fNotV, fTv, fNotT, fAndT, fOrT, fIf, fIfN, fCh, fCl, fClN, aNil, aD, aN, aP, fNil, fCons, fTup, fLst, sNil, sSeq, sSet, sSetM, sRet, sRetN, sIf, sBrk, sCnt, sDrop, sFor, rSeq, sFrz, iL, iT, iZ, oNone, oSome, fSlA, fSlL, fPot, sPot, gPot, sPotN, tName, tTupG, tsCons, tsNil, sPar, sPar3, notP, sUnp, wipeE, sApp, sExt, sSetIx, List.getElem?_cons_zero, List.getElem?_cons_succ, List.set_cons_zero, List.set_cons_succ, Option.bind_some, Option.map_some, Option.bind_none, Option.map_none, List.all_cons, List.all_nil, Sl.dp, Bool.and_true, Bool.true_and, and_self, and_true, true_and, if_true, if_false, ite_true, ite_false, Bool.false_eq_true, reduceCtorEq, reduceIte, Bool.not_true, Bool.not_false, gEq_str, gEq_int, gAdd_int, le_line, Nat.reduceLeDiff, Nat.reduceEqDiff, ne_eq, not_false_eq_true, cast_2, cast_3, cast_4, cast_5, cast_1, cast_0, eq_self, decide_true, decide_false, due, e_can_be_done g st, fClP, permL, List.map_cons, List.map_nil, List.getD_cons_zero, List.getD_cons_succ, rp, gIx_tup, atI_2, gLen_tup, List.length_map, okR_nat (n := S.ts.length) (by omega)]
  refine wp_for (fun _ ρ π' => (∃ s3 s4, ρ = [.d S.d, .d (tup hs), .d (.list ((S.do hs).map PyData.int)), s3, s4]) ∧ π' = π) ⟨⟨_, _, rfl⟩, rfl⟩ ?_ ?_
  · rintro j x hx ρ π' ⟨⟨s3, s4, rfl⟩, rfl⟩
    obtain ⟨rfl, hj⟩ := upTo_get hx
    rw [Int.toNat_natCast] at hj
    have r0 : (0 : Int) ≤ 0 + (j : Int) := by omega
    have r1 : 0 + (j : Int) < S.ts.length := by omega
    refine ⟨_, rfl, ?_⟩
    have hb := here_bs g (o := (S.gone hs 0 [0 + (j : Int)]).2) fun x hx => gone_stand g _ _ 0 st (fun q hq => one_mem r0 r1 hq) x hx
    have rp2 := (Bs.l2 hb hb).repr (by decide) (by decide)
    cases hc : (S.can hs (0 + (j : Int)) && decide (maxI (S.late hs (0 + (j : Int))) ≤ 9)) with
    | false =>
      have e1 := gone_one S hs (0 + (j : Int)) 0
      rw [hc] at e1
      have e2 : (S.gone hs 0 [0 + (j : Int)]).2 = none := e1
      rw [e2] at rp2
      simp (config := { failIfUnchanged := false }) only [mOf, mOfZ, mOfR, asB_b, asL_l, asT_t, asRt_rt, asRt_nx, wp_asRt, wp_asB, wp_asL, wp_asT, wp_bind, wp_map, wp_some, wp_fLc, wp_iR1, wp_iA, wp_iE, wp_iS, wp_iR2, caseA_l, caseA_t, caseL_l, caseT_t, caseB_b, caseI_i, caseS_s, entry, List.length_cons, List.length_nil, List.replicate, List.cons_append, List.nil_append, Nat.reduceAdd, Nat.reduceSub, fV, fVx, fC, fB, fBN, fU, fUN, fL, fIsi_ap, fAndV, fOrV, fNotV, fTv, fNotT, fAndT, fOrT, fIf, fIfN, fCh, fCl, fClN, aNil, aD, aN, aP, fNil, fCons, fTup, fLst, sNil, sSeq, sSet, sSetM, sRet, sRetN, sIf, sBrk, sCnt, sDrop, sFor, rSeq, sFrz, iL, iT, iZ, oNone, oSome, fSlA, fSlL, fPot, sPot, gPot, sPotN, tName, tTupG, tsCons, tsNil, sPar, sPar3, notP, sUnp, wipeE, sApp, sExt, sSetIx, List.getElem?_cons_zero, List.getElem?_cons_succ, List.set_cons_zero, List.set_cons_succ, Option.bind_some, Option.map_some, Option.bind_none, Option.map_none, List.all_cons, List.all_nil, Sl.dp, Bool.and_true, Bool.true_and, and_self, and_true, true_and, if_true, if_false, ite_true, ite_false, Bool.false_eq_true, reduceCtorEq, reduceIte, Bool.not_true, Bool.not_false, gEq_str, gEq_int, gAdd_int, le_line, Nat.reduceLeDiff, Nat.reduceEqDiff, ne_eq, not_false_eq_true, cast_2, cast_3, cast_4, cast_5, cast_1, cast_0, eq_self, decide_true, decide_false, e_law_behind g st r0 r1, isStrB, hc, e_behind g st r0 r1, e2, fClP, permL, List.map_cons, List.map_nil, List.getD_cons_zero, List.getD_cons_succ, hereD]
      simp only [hereD] at rp2
      simp (config := { failIfUnchanged := false }) only [mOf, mOfZ, mOfR, asB_b, asL_l, asT_t, asRt_rt, asRt_nx, wp_asRt, wp_asB, wp_asL, wp_asT, wp_bind, wp_map, wp_some, wp_fLc, wp_iR1, wp_iA, wp_iE, wp_iS, wp_iR2, caseA_l, caseA_t, caseL_l, caseT_t, caseB_b, caseI_i, caseS_s, entry, List.length_cons, List.length_nil, List.replicate, List.cons_append, List.nil_append, Nat.reduceAdd, Nat.reduceSub, fV, fVx, fC, fB, fBN, fU, fUN, fL, fIsi_ap, fAndV, fOrV, fNotV, fTv, fNotT, fAndT, fOrT, fIf, fIfN, fCh, fCl, fClN, aNil, aD, aN, aP, fNil, fCons, fTup, fLst, sNil, sSeq, sSet, sSetM, sRet, sRetN, sIf, sBrk, sCnt, sDrop, sFor, rSeq, sFrz, iL, iT, iZ, oNone, oSome, fSlA, fSlL, fPot, sPot, gPot, sPotN, tName, tTupG, tsCons, tsNil, sPar, sPar3, notP, sUnp, wipeE, sApp, sExt, sSetIx, List.getElem?_cons_zero, List.getElem?_cons_succ, List.set_cons_zero, List.set_cons_succ, Option.bind_some, Option.map_some, Option.bind_none, Option.map_none, List.all_cons, List.all_nil, Sl.dp, Bool.and_true, Bool.true_and, and_self, and_true, true_and, if_true, if_false, ite_true, ite_false, Bool.false_eq_true, reduceCtorEq, reduceIte, Bool.not_true, Bool.not_false, gEq_str, gEq_int, gAdd_int, le_line, Nat.reduceLeDiff, Nat.reduceEqDiff, ne_eq, not_false_eq_true, cast_2, cast_3, cast_4, cast_5, cast_1, cast_0, eq_self, decide_true, decide_false, rp2]
      exact ⟨_, _, rfl⟩
    | true =>
      have e1 := gone_one S hs (0 + (j : Int)) 0
      rw [hc] at e1
      have e2 : (S.gone hs 0 [0 + (j : Int)]).2 = some (S.late hs (0 + (j : Int))) := e1
      rw [e2] at rp2
      simp (config := { failIfUnchanged := false }) only [mOf, mOfZ, mOfR, asB_b, asL_l, asT_t, asRt_rt, asRt_nx, wp_asRt, wp_asB, wp_asL, wp_asT, wp_bind, wp_map, wp_some, wp_fLc, wp_iR1, wp_iA, wp_iE, wp_iS, wp_iR2, caseA_l, caseA_t, caseL_l, caseT_t, caseB_b, caseI_i, caseS_s, entry, List.length_cons, List.length_nil, List.replicate, List.cons_append, List.nil_append, Nat.reduceAdd, Nat.reduceSub, fV, fVx, fC, fB, fBN, fU, fUN, fL, fIsi_ap, fAndV, fOrV, fNotV, fTv, fNotT, fAndT, fOrT, fIf, fIfN, fCh, fCl, fClN, aNil, aD, aN, aP, fNil, fCons, fTup, fLst, sNil, sSeq, sSet, sSetM, sRet, sRetN, sIf, sBrk, sCnt, sDrop, sFor, rSeq, sFrz, iL, iT, iZ, oNone, oSome, fSlA, fSlL, fPot, sPot, gPot, sPotN, tName, tTupG, tsCons, tsNil, sPar, sPar3, notP, sUnp, wipeE, sApp, sExt, sSetIx, List.getElem?_cons_zero, List.getElem?_cons_succ, List.set_cons_zero, List.set_cons_succ, Option.bind_some, Option.map_some, Option.bind_none, Option.map_none, List.all_cons, List.all_nil, Sl.dp, Bool.and_true, Bool.true_and, and_self, and_true, true_and, if_true, if_false, ite_true, ite_false, Bool.false_eq_true, reduceCtorEq, reduceIte, Bool.not_true, Bool.not_false, gEq_str, gEq_int, gAdd_int, le_line, Nat.reduceLeDiff, Nat.reduceEqDiff, ne_eq, not_false_eq_true, cast_2, cast_3, cast_4, cast_5, cast_1, cast_0, eq_self, decide_true, decide_false, e_law_behind g st r0 r1, isi_str, dStr, lawB_some hc, e_behind g st r0 r1, e2, fClP, permL, List.map_cons, List.map_nil, List.getD_cons_zero, List.getD_cons_succ, hereD]
      simp only [hereD] at rp2
      simp (config := { failIfUnchanged := false }) only [mOf, mOfZ, mOfR, asB_b, asL_l, asT_t, asRt_rt, asRt_nx, wp_asRt, wp_asB, wp_asL, wp_asT, wp_bind, wp_map, wp_some, wp_fLc, wp_iR1, wp_iA, wp_iE, wp_iS, wp_iR2, caseA_l, caseA_t, caseL_l, caseT_t, caseB_b, caseI_i, caseS_s, entry, List.length_cons, List.length_nil, List.replicate, List.cons_append, List.nil_append, Nat.reduceAdd, Nat.reduceSub, fV, fVx, fC, fB, fBN, fU, fUN, fL, fIsi_ap, fAndV, fOrV, fNotV, fTv, fNotT, fAndT, fOrT, fIf, fIfN, fCh, fCl, fClN, aNil, aD, aN, aP, fNil, fCons, fTup, fLst, sNil, sSeq, sSet, sSetM, sRet, sRetN, sIf, sBrk, sCnt, sDrop, sFor, rSeq, sFrz, iL, iT, iZ, oNone, oSome, fSlA, fSlL, fPot, sPot, gPot, sPotN, tName, tTupG, tsCons, tsNil, sPar, sPar3, notP, sUnp, wipeE, sApp, sExt, sSetIx, List.getElem?_cons_zero, List.getElem?_cons_succ, List.set_cons_zero, List.set_cons_succ, Option.bind_some, Option.map_some, Option.bind_none, Option.map_none, List.all_cons, List.all_nil, Sl.dp, Bool.and_true, Bool.true_and, and_self, and_true, true_and, if_true, if_false, ite_true, ite_false, Bool.false_eq_true, reduceCtorEq, reduceIte, Bool.not_true, Bool.not_false, gEq_str, gEq_int, gAdd_int, le_line, Nat.reduceLeDiff, Nat.reduceEqDiff, ne_eq, not_false_eq_true, cast_2, cast_3, cast_4, cast_5, cast_1, cast_0, eq_self, decide_true, decide_false, rp2]
      exact ⟨_, _, rfl⟩
  · rintro ρ' π' ⟨⟨s3, s4, rfl⟩, rfl⟩
    simp (config := { failIfUnchanged := false }) only [mOf, mOfZ, mOfR, asB_b, asL_l, asT_t, asRt_rt, asRt_nx, wp_asRt, wp_asB, wp_asL, wp_asT, wp_bind, wp_map, wp_some, wp_fLc, wp_iR1, wp_iA, wp_iE, wp_iS, wp_iR2, caseA_l, caseA_t, caseL_l, caseT_t, caseB_b, caseI_i, caseS_s, entry, List.length_cons, List.length_nil, List.replicate, List.cons_append, List.nil_append, Nat.reduceAdd, Nat.reduceSub, fV, fVx, fC, fB, fBN, fU, fUN, fL, fIsi_ap, fAndV, fOrV, fNotV, fTv, fNotT, fAndT, fOrT, fIf, fIfN, fCh, fCl, fClN, aNil, aD, aN, aP, fNil, fCons, fTup, fLst, sNil, sSeq, sSet, sSetM, sRet, sRetN, sIf, sBrk, sCnt, sDrop, sFor, rSeq, sFrz, iL, iT, iZ, oNone, oSome, fSlA, fSlL, fPot, sPot, gPot, sPotN, tName, tTupG, tsCons, tsNil, sPar, sPar3, notP, sUnp, wipeE, sApp, sExt, sSetIx, List.getElem?_cons_zero, List.getElem?_cons_succ, List.set_cons_zero, List.set_cons_succ, Option.bind_some, Option.map_some, Option.bind_none, Option.map_none, List.all_cons, List.all_nil, Sl.dp, Bool.and_true, Bool.true_and, and_self, and_true, true_and, if_true, if_false, ite_true, ite_false, Bool.false_eq_true, reduceCtorEq, reduceIte, Bool.not_true, Bool.not_false, gEq_str, gEq_int, gAdd_int, le_line, Nat.reduceLeDiff, Nat.reduceEqDiff, ne_eq, not_false_eq_true, cast_2, cast_3, cast_4, cast_5, cast_1, cast_0, eq_self, decide_true, decide_false]
end
end Law11

set_option maxHeartbeats 4000000
namespace Law11
open PySem DL Pg
set_option autoImplicit false
theorem gone_append (S : Sht) : ∀ (a b hs : List Int) (i : Int), (S.gone hs i (a ++ b)).2 = ((S.gone hs i a).2).bind fun m => (S.gone m 0 b).2
  | [], b, hs, i => by rw [List.nil_append]; exact gone_fst S b hs i 0
  | r :: a, b, hs, i => by
    rw [List.cons_append]
    have e1 : S.gone hs i (r :: (a ++ b)) = if S.can hs r = true then (if decide (maxI (S.late hs r) ≤ 9) = true then S.gone (S.late hs r) (i + 1) (a ++ b) else (some (i, "spills"), none)) else (some (i, "not"), none) := rfl
    have e2 : S.gone hs i (r :: a) = if S.can hs r = true then (if decide (maxI (S.late hs r) ≤ 9) = true then S.gone (S.late hs r) (i + 1) a else (some (i, "spills"), none)) else (some (i, "not"), none) := rfl
    rw [e1, e2]
    split
    · split
      · exact gone_append S a b _ _
      · rfl
    · rfl
theorem hereD_some (h : List Int) : hereD (some h) = tup h := rfl
theorem flawD_none : flawD none = .none := rfl
section
variable {S : Sht} {hs rs : List Int}
theorem flaw_bs (S : Sht) : ∀ (rs hs : List Int) (i : Int), 0 ≤ i → i + rs.length ≤ 1000 → Bs 80 1 (flawD (S.gone hs i rs).1)
  | [], hs, i, _, _ => Bs.none.mono (by decide) (by decide)
  | r :: rs, hs, i, h0, h1 => by
    rw [List.length_cons] at h1
    unfold Sht.gone
    have w : ∀ z : Str, z.length ≤ 8 → PyData.strOk z = true → Bs 80 1 (.tuple [.int i, .str z]) := fun z hz ho => (Bs.t2 (Bs.sint (by omega) (by omega)) (Bs.str ho hz)).mono (by decide) (by decide)
    split
    · split
      · exact flaw_bs S rs _ _ (by omega) (by omega)
      · exact w _ (by decide +kernel) (by decide +kernel)
    · exact w _ (by decide +kernel) (by decide +kernel)
theorem row_bs (g : S.Ok) (hr : ∀ r ∈ rs, 0 ≤ r ∧ r < S.ts.length) (hn : rs.length ≤ 400) : Bs 5200 1 (.list ((S.row rs).map PyData.str)) := by
  have q := Bss.of (xs := (S.row rs).map PyData.str) (W := 12) (D := 0) (n := 400) (fun x hx => by
    obtain ⟨z, hz, rfl⟩ := List.mem_map.mp hx
    unfold Sht.row at hz
    obtain ⟨r, hm, rfl⟩ := List.mem_map.mp hz
    obtain ⟨r0, r1⟩ := hr r (List.mem_filter.mp hm).1
    obtain ⟨o, l⟩ := name_ok (g.T r0 r1).nm
    exact Bs.str o l) (by
      rw [List.length_map, Sht.row, List.length_map]
      exact Nat.le_trans (List.length_filter_le _ _) hn)
  exact (Bs.lst q).mono (by decide) (by decide)
theorem run_bs (g : S.Ok) (hr : ∀ r ∈ rs, 0 ≤ r ∧ r < S.ts.length) (hn : rs.length ≤ 400) : Bs 27600 1 (.list (rs.map PyData.int)) :=
  (Bs.lst (Bss.ints (n := 400) (fun n h => by have := hr n h; have := g.t2; omega) hn)).mono (by decide) (by decide)
theorem gEq_heres (a b : List Int) : gEq true (tup a) (tup b) = some (.bool (!decide (a = b))) := gEq_tups true a b
theorem e_run_right (g : S.Ok) (st : Stand S.p hs) (hr : ∀ r ∈ rs, 0 ≤ r ∧ r < S.ts.length) (hn : rs.length ≤ 400) (π : Pt) : m__law_run_right [.d S.d, .d (tup hs), .d (.list (rs.map PyData.int))] π = some (.bool true, π) := by
  have ht2 := g.t2
  have a1 : ∀ π, m__law_gone [.d S.d, .d (tup hs), .d (.list (rs.map PyData.int))] π = some (.tuple [flawD (S.gone hs 0 rs).1, hereD (S.gone hs 0 rs).2], π) := fun π => e_law_gone g true rs hs st hr π
  have a2 : ∀ π, m__law_gone [.d S.d, .d (tup S.fs), .d (.list (rs.map PyData.int))] π = some (.tuple [flawD (S.gone S.fs 0 rs).1, hereD (S.gone S.fs 0 rs).2], π) := fun π => e_law_gone g true rs S.fs g.f hr π
  have b1 : ∀ π, m_run_flaw [.d S.d, .d (tup hs), .d (.list (rs.map PyData.int))] π = _ := fun π => e_run_flaw g st true hr hn π
  have b2 : ∀ π, m_run_flaw [.d S.d, .d (tup hs), .d (.tuple (rs.map PyData.int))] π = _ := fun π => e_run_flaw g st false hr hn π
  have c1 : ∀ π, m_standing_behind [.d S.d, .d (tup hs), .d (.list (rs.map PyData.int))] π = _ := fun π => e_standing_behind g st true hr hn π
  have c2 : ∀ π, m_standing_behind [.d S.d, .d (tup hs), .d (.tuple (rs.map PyData.int))] π = _ := fun π => e_standing_behind g st false hr hn π
  have d1 : ∀ π, m_row_of [.d S.d, .d (.list (rs.map PyData.int))] π = _ := fun π => e_row_of g true hr hn π
  have d2 : ∀ π, m_row_of [.d S.d, .d (.tuple (rs.map PyData.int))] π = _ := fun π => e_row_of g false hr hn π
  have w1 : ∀ π, m_is_whole_run [.d S.d, .d (.list (rs.map PyData.int))] π = _ := fun π => e_is_whole_run g true hr hn π
  have w2 : ∀ π, m_is_whole_run [.d S.d, .d (.tuple (rs.map PyData.int))] π = _ := fun π => e_is_whole_run g false hr hn π
  have nmE : ∀ s3 s4 s5 s6 s7 s8 s9 s10 s11 s12 s14, fLc (iL (fV 2)) [13] (tName 13) bYes (fB gIx (fB gIx (fB gIx (fVx 0) (fC (.int 2))) (fVx 13)) (fC (.int 0))) [.d S.d, .d (tup hs), .d (.list (rs.map PyData.int)), s3, s4, s5, s6, s7, s8, s9, s10, s11, s12, .e, s14] π = some ((rs.map fun r => (S.T r).nm).map PyData.str, π) := fun s3 s4 s5 s6 s7 s8 s9 s10 s11 s12 s14 => by
    have e : (rs.map fun r => (S.T r).nm).map PyData.str = (rs.map PyData.int).map (ixI fun r => .str (S.T r).nm) := by rw [List.map_map, List.map_map]; rfl
    rw [e]
    refine fLc_map (ds := rs.map PyData.int) (π1 := π) _ (by simp only [mOf, mOfZ, mOfR, asRt, entry, List.length_cons, List.length_nil, List.replicate, List.cons_append, List.nil_append, Nat.reduceAdd, Nat.reduceSub, fV, fVx, fC, fB, fBN, fU, fUN, fL, fIsi, fAndV, fOrV, fNotV, fTv, asB, asL, asT, fNotT, fAndT, fOrT, fIf, fIfN, fCh, fCl, fClN, aNil, aD, aN, aP, fNil, fCons, fTup, fLst, sNil, sSeq, sSet, sSetM, sRet, sRetN, sIf, sBrk, sCnt, sDrop, sFor, rSeq, sFrz, iL, iT, iS, iE, iZ, oNone, oSome, fSlA, fSlL, fPot, sPot, gPot, sPotN, List.getElem?_cons_zero, List.getElem?_cons_succ, List.set_cons_zero, List.set_cons_succ, Option.bind_some, Option.map_some, Option.bind_none, Option.map_none, List.all_cons, List.all_nil, Sl.dp, Bool.and_true, Bool.true_and, and_self, and_true, true_and, if_true, if_false, ite_true, ite_false, Bool.false_eq_true, reduceCtorEq, reduceIte, Bool.not_true, Bool.not_false, gEq_str, gEq_int, gAdd_int, le_line, Nat.reduceLeDiff, Nat.reduceEqDiff, ne_eq, not_false_eq_true, cast_2, cast_3, cast_4, cast_5, cast_1, cast_0, eq_self, decide_true, decide_false]) (len_line (by rw [List.length_map]; omega)) fun x hx => ?_
    obtain ⟨r, hm, rfl⟩ := List.mem_map.mp hx
    obtain ⟨r0, r1⟩ := hr r hm
    exact ⟨_, rfl, rfl, by simp only [mOf, mOfZ, mOfR, asRt, entry, List.length_cons, List.length_nil, List.replicate, List.cons_append, List.nil_append, Nat.reduceAdd, Nat.reduceSub, fV, fVx, fC, fB, fBN, fU, fUN, fL, fIsi, fAndV, fOrV, fNotV, fTv, asB, asL, asT, fNotT, fAndT, fOrT, fIf, fIfN, fCh, fCl, fClN, aNil, aD, aN, aP, fNil, fCons, fTup, fLst, sNil, sSeq, sSet, sSetM, sRet, sRetN, sIf, sBrk, sCnt, sDrop, sFor, rSeq, sFrz, iL, iT, iS, iE, iZ, oNone, oSome, fSlA, fSlL, fPot, sPot, gPot, sPotN, List.getElem?_cons_zero, List.getElem?_cons_succ, List.set_cons_zero, List.set_cons_succ, Option.bind_some, Option.map_some, Option.bind_none, Option.map_none, List.all_cons, List.all_nil, Sl.dp, Bool.and_true, Bool.true_and, and_self, and_true, true_and, if_true, if_false, ite_true, ite_false, Bool.false_eq_true, reduceCtorEq, reduceIte, Bool.not_true, Bool.not_false, gEq_str, gEq_int, gAdd_int, le_line, Nat.reduceLeDiff, Nat.reduceEqDiff, ne_eq, not_false_eq_true, cast_2, cast_3, cast_4, cast_5, cast_1, cast_0, eq_self, decide_true, decide_false, wipeE, gIx_tup, atI_2, Sht.at_ r0 r1, atI_0, ixI]⟩
  have rowE : ∀ s3 s4 s5 s7 s8 s9 s10 s11 s12 s13, fLc (iL (fV 6)) [14] (tName 14) (fTv (fB (gEq true) (fVx 14) (fC (.str "")))) (fV 14) [.d S.d, .d (tup hs), .d (.list (rs.map PyData.int)), s3, s4, s5, .d (.list ((rs.map fun r => (S.T r).nm).map PyData.str)), s7, s8, s9, s10, s11, s12, s13, .e] π = some ((S.row rs).map PyData.str, π) := fun s3 s4 s5 s7 s8 s9 s10 s11 s12 s13 => by
    have e : (S.row rs).map PyData.str = (((rs.map fun r => (S.T r).nm).map PyData.str).filter fun x => match x with | .str z => !decide (z = "") | _ => false).map id := by
      rw [List.map_id, List.map_map, List.filter_map, Sht.row, List.map_map]; rfl
    rw [e]
    refine fLc_pure (ds := (rs.map fun r => (S.T r).nm).map PyData.str) (π1 := π) _ id (by simp only [mOf, mOfZ, mOfR, asRt, entry, List.length_cons, List.length_nil, List.replicate, List.cons_append, List.nil_append, Nat.reduceAdd, Nat.reduceSub, fV, fVx, fC, fB, fBN, fU, fUN, fL, fIsi, fAndV, fOrV, fNotV, fTv, asB, asL, asT, fNotT, fAndT, fOrT, fIf, fIfN, fCh, fCl, fClN, aNil, aD, aN, aP, fNil, fCons, fTup, fLst, sNil, sSeq, sSet, sSetM, sRet, sRetN, sIf, sBrk, sCnt, sDrop, sFor, rSeq, sFrz, iL, iT, iS, iE, iZ, oNone, oSome, fSlA, fSlL, fPot, sPot, gPot, sPotN, List.getElem?_cons_zero, List.getElem?_cons_succ, List.set_cons_zero, List.set_cons_succ, Option.bind_some, Option.map_some, Option.bind_none, Option.map_none, List.all_cons, List.all_nil, Sl.dp, Bool.and_true, Bool.true_and, and_self, and_true, true_and, if_true, if_false, ite_true, ite_false, Bool.false_eq_true, reduceCtorEq, reduceIte, Bool.not_true, Bool.not_false, gEq_str, gEq_int, gAdd_int, le_line, Nat.reduceLeDiff, Nat.reduceEqDiff, ne_eq, not_false_eq_true, cast_2, cast_3, cast_4, cast_5, cast_1, cast_0, eq_self, decide_true, decide_false]) (len_line (by rw [List.length_map, List.length_map]; omega)) fun x hx => ?_
    obtain ⟨z, _, rfl⟩ := List.mem_map.mp hx
    exact ⟨_, rfl, by simp only [mOf, mOfZ, mOfR, asRt, entry, List.length_cons, List.length_nil, List.replicate, List.cons_append, List.nil_append, Nat.reduceAdd, Nat.reduceSub, fV, fVx, fC, fB, fBN, fU, fUN, fL, fIsi, fAndV, fOrV, fNotV, fTv, asB, asL, asT, fNotT, fAndT, fOrT, fIf, fIfN, fCh, fCl, fClN, aNil, aD, aN, aP, fNil, fCons, fTup, fLst, sNil, sSeq, sSet, sSetM, sRet, sRetN, sIf, sBrk, sCnt, sDrop, sFor, rSeq, sFrz, iL, iT, iS, iE, iZ, oNone, oSome, fSlA, fSlL, fPot, sPot, gPot, sPotN, List.getElem?_cons_zero, List.getElem?_cons_succ, List.set_cons_zero, List.set_cons_succ, Option.bind_some, Option.map_some, Option.bind_none, Option.map_none, List.all_cons, List.all_nil, Sl.dp, Bool.and_true, Bool.true_and, and_self, and_true, true_and, if_true, if_false, ite_true, ite_false, Bool.false_eq_true, reduceCtorEq, reduceIte, Bool.not_true, Bool.not_false, gEq_str, gEq_int, gAdd_int, le_line, Nat.reduceLeDiff, Nat.reduceEqDiff, ne_eq, not_false_eq_true, cast_2, cast_3, cast_4, cast_5, cast_1, cast_0, eq_self, decide_true, decide_false, wipeE], fun _ => by simp only [mOf, mOfZ, mOfR, asRt, entry, List.length_cons, List.length_nil, List.replicate, List.cons_append, List.nil_append, Nat.reduceAdd, Nat.reduceSub, fV, fVx, fC, fB, fBN, fU, fUN, fL, fIsi, fAndV, fOrV, fNotV, fTv, asB, asL, asT, fNotT, fAndT, fOrT, fIf, fIfN, fCh, fCl, fClN, aNil, aD, aN, aP, fNil, fCons, fTup, fLst, sNil, sSeq, sSet, sSetM, sRet, sRetN, sIf, sBrk, sCnt, sDrop, sFor, rSeq, sFrz, iL, iT, iS, iE, iZ, oNone, oSome, fSlA, fSlL, fPot, sPot, gPot, sPotN, List.getElem?_cons_zero, List.getElem?_cons_succ, List.set_cons_zero, List.set_cons_succ, Option.bind_some, Option.map_some, Option.bind_none, Option.map_none, List.all_cons, List.all_nil, Sl.dp, Bool.and_true, Bool.true_and, and_self, and_true, true_and, if_true, if_false, ite_true, ite_false, Bool.false_eq_true, reduceCtorEq, reduceIte, Bool.not_true, Bool.not_false, gEq_str, gEq_int, gAdd_int, le_line, Nat.reduceLeDiff, Nat.reduceEqDiff, ne_eq, not_false_eq_true, cast_2, cast_3, cast_4, cast_5, cast_1, cast_0, eq_self, decide_true, decide_false, wipeE, id]⟩
  have bF := flaw_bs S rs hs 0 (by omega) (by omega)
  have bH := here_bs g (o := (S.gone hs 0 rs).2) fun x hx => gone_stand g rs hs 0 st hr x hx
  have bR := row_bs g hr hn
  have b3 := Bs.lst (Bss.cons bF (Bss.cons bH (Bss.one bR)))
  have rp1 := (Bs.l2 b3 b3).repr (by decide) (by decide)
  have rp2 := (Bs.l2 g.bs (run_bs g hr hn)).repr (by decide) (by decide)
  have rp3 := fun b c => (Bs.l2 (Bs.bool b) (Bs.bool c)).repr (by decide) (by decide)
  have rp4 := bR.repr (by decide) (by decide)
  have hlen : decide ((1 : Int) < (rs.length : Int)) = decide (1 < rs.length) := by
    rw [Bool.eq_iff_iff, decide_eq_true_eq, decide_eq_true_eq]; omega
  have rl : (S.row rs).length ≤ 400 := by
    rw [Sht.row, List.length_map]
    exact Nat.le_trans (List.length_filter_le _ _) hn
  have rlz : (S.row rs).length < sizeLine := by rw [sizeLine_eq]; omega
  have dv : cDiv (rs.length : Int) 2 = true := rfl
  have ix2 : L2.ixN 3 2 = some 2 := rfl
  have lt15 : (7 < 15) = True := eq_true (by decide)
  have hk : (rs.length : Int) / 2 = ((rs.length / 2 : Nat) : Int) := by omega
  have ct : cutD (rs.map PyData.int) none (some ((rs.length : Int) / 2)) = (rs.take (rs.length / 2)).map PyData.int := by
    rw [hk, cutD_to, List.map_take]
  have cf : cutD (rs.map PyData.int) (some ((rs.length : Int) / 2)) none = (rs.drop (rs.length / 2)).map PyData.int := by
    rw [hk, cutD_from, List.map_drop]
  have hrt : ∀ r ∈ rs.take (rs.length / 2), 0 ≤ r ∧ r < S.ts.length := fun r h => hr r (List.mem_of_mem_take h)
  have hrd : ∀ r ∈ rs.drop (rs.length / 2), 0 ≤ r ∧ r < S.ts.length := fun r h => hr r (List.mem_of_mem_drop h)
  have k1 : ∀ π, m_standing_behind [.d S.d, .d (tup hs), .d (.list ((rs.take (rs.length / 2)).map PyData.int))] π = _ := fun π => e_standing_behind g st true hrt (by rw [List.length_take]; omega) π
  have ga := gone_append S (rs.take (rs.length / 2)) (rs.drop (rs.length / 2)) hs 0
  rw [List.take_append_drop] at ga
  unfold m__law_run_right g__law_run_right
  refine wp_eq ?_
  rcases gone_shape S rs hs 0 with ⟨h, e⟩ | ⟨f, e⟩
  · rw [e] at a1 b1 b2 c1 c2 rp1 ga
    simp only [flawD_none, hereD_some] at rp1
    simp (config := { failIfUnchanged := false }) only [mOf, mOfZ, mOfR, asB_b, asL_l, asT_t, asRt_rt, asRt_nx, wp_asRt, wp_asB, wp_asL, wp_asT, wp_bind, wp_map, wp_some, wp_fLc, wp_iR1, wp_iA, wp_iE, wp_iS, wp_iR2, caseA_l, caseA_t, caseL_l, caseT_t, caseB_b, caseI_i, caseS_s, entry, List.length_cons, List.length_nil, List.replicate, List.cons_append, List.nil_append, Nat.reduceAdd, Nat.reduceSub, fV, fVx, fC, fB, fBN, fU, fUN, fL, fIsi_ap, fAndV, fOrV, fNotV, fTv, fNotT, fAndT, fOrT, fIf, fIfN, fCh, fCl, fClN, aNil, aD, aN, aP, fNil, fCons, fTup, fLst, sNil, sSeq, sSet, sSetM, sRet, sRetN, sIf, sBrk, sCnt, sDrop, sFor, rSeq, sFrz, iL, iT, iZ, oNone, oSome, fSlA, fSlL, fPot, sPot, gPot, sPotN, tName, tTupG, tsCons, tsNil, sPar, sPar3, notP, sUnp, wipeE, sApp, sExt, sSetIx, List.getElem?_cons_zero, List.getElem?_cons_succ, List.set_cons_zero, List.set_cons_succ, Option.bind_some, Option.map_some, Option.bind_none, Option.map_none, List.all_cons, List.all_nil, Sl.dp, Bool.and_true, Bool.true_and, and_self, and_true, true_and, if_true, if_false, ite_true, ite_false, Bool.false_eq_true, reduceCtorEq, reduceIte, Bool.not_true, Bool.not_false, gEq_str, gEq_int, gAdd_int, le_line, Nat.reduceLeDiff, Nat.reduceEqDiff, ne_eq, not_false_eq_true, cast_2, cast_3, cast_4, cast_5, cast_1, cast_0, eq_self, decide_true, decide_false, a1, a2, b1, b2, c1, c2, d1, d2, w1, w2, nmE, rowE, rp1, rp2, rp3, rp4, fClP, mL, permL, List.map_cons, List.map_nil, List.getD_cons_zero, List.getD_cons_succ, wNew, wMid, wIf, wApp, datas, noM, gCatL, gTuple, gIx_tup, gIx_lst, atI_0, atI_1, atI_2, atI_3, atI_4, gEq_here, gLen_lst, List.length_map, gGt, gCmp, hlen, rlz, lt15, ix2, gIsN_none, flawD_none, isNone, hereD_some]
    cases h1 : decide (1 < rs.length) with
    | false => simp (config := { failIfUnchanged := false }) only [mOf, mOfZ, mOfR, asB_b, asL_l, asT_t, asRt_rt, asRt_nx, wp_asRt, wp_asB, wp_asL, wp_asT, wp_bind, wp_map, wp_some, wp_fLc, wp_iR1, wp_iA, wp_iE, wp_iS, wp_iR2, caseA_l, caseA_t, caseL_l, caseT_t, caseB_b, caseI_i, caseS_s, entry, List.length_cons, List.length_nil, List.replicate, List.cons_append, List.nil_append, Nat.reduceAdd, Nat.reduceSub, fV, fVx, fC, fB, fBN, fU, fUN, fL, fIsi_ap, fAndV, fOrV, fNotV, fTv, fNotT, fAndT, fOrT, fIf, fIfN, fCh, fCl, fClN, aNil, aD, aN, aP, fNil, fCons, fTup, fLst, sNil, sSeq, sSet, sSetM, sRet, sRetN, sIf, sBrk, sCnt, sDrop, sFor, rSeq, sFrz, iL, iT, iZ, oNone, oSome, fSlA, fSlL, fPot, sPot, gPot, sPotN, tName, tTupG, tsCons, tsNil, sPar, sPar3, notP, sUnp, wipeE, sApp, sExt, sSetIx, List.getElem?_cons_zero, List.getElem?_cons_succ, List.set_cons_zero, List.set_cons_succ, Option.bind_some, Option.map_some, Option.bind_none, Option.map_none, List.all_cons, List.all_nil, Sl.dp, Bool.and_true, Bool.true_and, and_self, and_true, true_and, if_true, if_false, ite_true, ite_false, Bool.false_eq_true, reduceCtorEq, reduceIte, Bool.not_true, Bool.not_false, gEq_str, gEq_int, gAdd_int, le_line, Nat.reduceLeDiff, Nat.reduceEqDiff, ne_eq, not_false_eq_true, cast_2, cast_3, cast_4, cast_5, cast_1, cast_0, eq_self, decide_true, decide_false, rp1, rp2, rp4, d1, gIx_lst, atI_2]
    | true =>
      cases hm : (S.gone hs 0 (rs.take (rs.length / 2))).2 with
      | none => rw [hm] at ga; cases ga
      | some m =>
        rw [hm] at ga k1
        have sm := gone_stand g _ hs 0 st hrt m hm
        have k2 : ∀ π, m_standing_behind [.d S.d, .d (tup m), .d (.list ((rs.drop (rs.length / 2)).map PyData.int))] π = _ := fun π => e_standing_behind g sm true hrd (by rw [List.length_drop]; omega) π
        have ga2 : (S.gone m 0 (rs.drop (rs.length / 2))).2 = some h := ga.symm
        rw [ga2] at k2
        simp (config := { failIfUnchanged := false }) only [mOf, mOfZ, mOfR, asB_b, asL_l, asT_t, asRt_rt, asRt_nx, wp_asRt, wp_asB, wp_asL, wp_asT, wp_bind, wp_map, wp_some, wp_fLc, wp_iR1, wp_iA, wp_iE, wp_iS, wp_iR2, caseA_l, caseA_t, caseL_l, caseT_t, caseB_b, caseI_i, caseS_s, entry, List.length_cons, List.length_nil, List.replicate, List.cons_append, List.nil_append, Nat.reduceAdd, Nat.reduceSub, fV, fVx, fC, fB, fBN, fU, fUN, fL, fIsi_ap, fAndV, fOrV, fNotV, fTv, fNotT, fAndT, fOrT, fIf, fIfN, fCh, fCl, fClN, aNil, aD, aN, aP, fNil, fCons, fTup, fLst, sNil, sSeq, sSet, sSetM, sRet, sRetN, sIf, sBrk, sCnt, sDrop, sFor, rSeq, sFrz, iL, iT, iZ, oNone, oSome, fSlA, fSlL, fPot, sPot, gPot, sPotN, tName, tTupG, tsCons, tsNil, sPar, sPar3, notP, sUnp, wipeE, sApp, sExt, sSetIx, List.getElem?_cons_zero, List.getElem?_cons_succ, List.set_cons_zero, List.set_cons_succ, Option.bind_some, Option.map_some, Option.bind_none, Option.map_none, List.all_cons, List.all_nil, Sl.dp, Bool.and_true, Bool.true_and, and_self, and_true, true_and, if_true, if_false, ite_true, ite_false, Bool.false_eq_true, reduceCtorEq, reduceIte, Bool.not_true, Bool.not_false, gEq_str, gEq_int, gAdd_int, le_line, Nat.reduceLeDiff, Nat.reduceEqDiff, ne_eq, not_false_eq_true, cast_2, cast_3, cast_4, cast_5, cast_1, cast_0, eq_self, decide_true, decide_false, gDiv, gI, dv, ct, k1, k2, hereD_some, cf, gEq_heres, rp1, rp2, rp4, d1, gIx_lst, atI_2]
  · rw [e] at a1 b1 b2 c1 c2 rp1
    have nf : isNone (flawD (some f)) = false := rfl
    simp (config := { failIfUnchanged := false }) only [mOf, mOfZ, mOfR, asB_b, asL_l, asT_t, asRt_rt, asRt_nx, wp_asRt, wp_asB, wp_asL, wp_asT, wp_bind, wp_map, wp_some, wp_fLc, wp_iR1, wp_iA, wp_iE, wp_iS, wp_iR2, caseA_l, caseA_t, caseL_l, caseT_t, caseB_b, caseI_i, caseS_s, entry, List.length_cons, List.length_nil, List.replicate, List.cons_append, List.nil_append, Nat.reduceAdd, Nat.reduceSub, fV, fVx, fC, fB, fBN, fU, fUN, fL, fIsi_ap, fAndV, fOrV, fNotV, fTv, fNotT, fAndT, fOrT, fIf, fIfN, fCh, fCl, fClN, aNil, aD, aN, aP, fNil, fCons, fTup, fLst, sNil, sSeq, sSet, sSetM, sRet, sRetN, sIf, sBrk, sCnt, sDrop, sFor, rSeq, sFrz, iL, iT, iZ, oNone, oSome, fSlA, fSlL, fPot, sPot, gPot, sPotN, tName, tTupG, tsCons, tsNil, sPar, sPar3, notP, sUnp, wipeE, sApp, sExt, sSetIx, List.getElem?_cons_zero, List.getElem?_cons_succ, List.set_cons_zero, List.set_cons_succ, Option.bind_some, Option.map_some, Option.bind_none, Option.map_none, List.all_cons, List.all_nil, Sl.dp, Bool.and_true, Bool.true_and, and_self, and_true, true_and, if_true, if_false, ite_true, ite_false, Bool.false_eq_true, reduceCtorEq, reduceIte, Bool.not_true, Bool.not_false, gEq_str, gEq_int, gAdd_int, le_line, Nat.reduceLeDiff, Nat.reduceEqDiff, ne_eq, not_false_eq_true, cast_2, cast_3, cast_4, cast_5, cast_1, cast_0, eq_self, decide_true, decide_false, a1, a2, b1, b2, c1, c2, d1, d2, w1, w2, nmE, rowE, rp1, rp2, rp3, rp4, fClP, mL, permL, List.map_cons, List.map_nil, List.getD_cons_zero, List.getD_cons_succ, wNew, wMid, wIf, wApp, datas, noM, gCatL, gTuple, gIx_tup, gIx_lst, atI_0, atI_1, atI_2, atI_3, atI_4, gEq_here, gLen_lst, List.length_map, gGt, gCmp, hlen, rlz, lt15, ix2, gIsN_none, nf]
end
end Law11

set_option maxHeartbeats 4000000
namespace Law11
open PySem DL Pg
set_option autoImplicit false
theorem atI_last (xs : List PyData) (x : PyData) : L2.atI (xs ++ [x]) (-1) = some x := by
  unfold L2.atI L2.ixN
  have h : (xs ++ [x]).length = xs.length + 1 := by simp
  rw [if_neg (by omega), if_pos (by omega)]
  have e : (-1 + ((xs ++ [x]).length : Int)).toNat = xs.length := by omega
  simp only [Option.bind_some, e]
  simp
def Sht.goes (S : Sht) (hs : List Int) (r : Int) : Bool := S.can hs r && decide (maxI (S.late hs r) ≤ 9)
section
variable {S : Sht} {hs : List Int}
theorem gone_snoc {rs h : List Int} {r i : Int} (e : (S.gone hs i rs).2 = some h) (g : Sht.goes S h r = true) : (S.gone hs i (rs ++ [r])).2 = some (S.late h r) := by
  rw [gone_append, e]
  have q := gone_one S h r 0
  unfold Sht.goes at g
  rw [g] at q
  exact q
theorem someE (g : S.Ok) {h : List Int} (sth : Stand S.p h) (π : Pt) (s0 s2 s3 s5 s6 s7 : Sl) : fLc (iR1 (fU gLen (fB gIx (fVx 1) (fC (.int 2))))) [8] (tName 8) (fNotT (fTv (fIsi "str" (fCl 3 m__law_behind (aD (fV 1) (aD (fV 4) (aD (fV 8) aNil))))))) (fV 8) [s0, .d S.d, s2, s3, .d (tup h), s5, s6, s7, .e] π = some (((ups S.ts.length).filter (Sht.goes S h)).map PyData.int, π) := by
  have ht2 := g.t2
  have e : ((ups S.ts.length).filter (Sht.goes S h)).map PyData.int = (((ups S.ts.length).map PyData.int).filter (ixB (Sht.goes S h))).map (ixI PyData.int) := by
    rw [fltI]
  rw [e]
  refine fLc_pure (ds := (ups S.ts.length).map PyData.int) (π1 := π) (ixB (Sht.goes S h)) (ixI PyData.int) (iR1_of (by simp only [mOf, mOfZ, mOfR, asRt, entry, List.length_cons, List.length_nil, List.replicate, List.cons_append, List.nil_append, Nat.reduceAdd, Nat.reduceSub, fV, fVx, fC, fB, fBN, fU, fUN, fL, fIsi, fAndV, fOrV, fNotV, fTv, asB, asL, asT, fNotT, fAndT, fOrT, fIf, fIfN, fCh, fCl, fClN, aNil, aD, aN, aP, fNil, fCons, fTup, fLst, sNil, sSeq, sSet, sSetM, sRet, sRetN, sIf, sBrk, sCnt, sDrop, sFor, rSeq, sFrz, iL, iT, iS, iE, iZ, oNone, oSome, fSlA, fSlL, fPot, sPot, gPot, sPotN, List.getElem?_cons_zero, List.getElem?_cons_succ, List.set_cons_zero, List.set_cons_succ, Option.bind_some, Option.map_some, Option.bind_none, Option.map_none, List.all_cons, List.all_nil, Sl.dp, Bool.and_true, Bool.true_and, and_self, and_true, true_and, if_true, if_false, ite_true, ite_false, Bool.false_eq_true, reduceCtorEq, reduceIte, Bool.not_true, Bool.not_false, gEq_str, gEq_int, gAdd_int, le_line, Nat.reduceLeDiff, Nat.reduceEqDiff, ne_eq, not_false_eq_true, cast_2, cast_3, cast_4, cast_5, cast_1, cast_0, eq_self, decide_true, decide_false, gIx_tup, atI_2, gLen_tup, List.length_map]) (by omega)) (len_line (by rw [List.length_map, ups_len]; omega)) fun x hx => ?_
  obtain ⟨r, hr, rfl⟩ := List.mem_map.mp hx
  obtain ⟨r0, r1⟩ := ups_mem hr
  refine ⟨_, rfl, ?_, fun _ => ?_⟩
  · simp only [mOf, mOfZ, mOfR, asRt, entry, List.length_cons, List.length_nil, List.replicate, List.cons_append, List.nil_append, Nat.reduceAdd, Nat.reduceSub, fV, fVx, fC, fB, fBN, fU, fUN, fL, fIsi, fAndV, fOrV, fNotV, fTv, asB, asL, asT, fNotT, fAndT, fOrT, fIf, fIfN, fCh, fCl, fClN, aNil, aD, aN, aP, fNil, fCons, fTup, fLst, sNil, sSeq, sSet, sSetM, sRet, sRetN, sIf, sBrk, sCnt, sDrop, sFor, rSeq, sFrz, iL, iT, iS, iE, iZ, oNone, oSome, fSlA, fSlL, fPot, sPot, gPot, sPotN, List.getElem?_cons_zero, List.getElem?_cons_succ, List.set_cons_zero, List.set_cons_succ, Option.bind_some, Option.map_some, Option.bind_none, Option.map_none, List.all_cons, List.all_nil, Sl.dp, Bool.and_true, Bool.true_and, and_self, and_true, true_and, if_true, if_false, ite_true, ite_false, Bool.false_eq_true, reduceCtorEq, reduceIte, Bool.not_true, Bool.not_false, gEq_str, gEq_int, gAdd_int, le_line, Nat.reduceLeDiff, Nat.reduceEqDiff, ne_eq, not_false_eq_true, cast_2, cast_3, cast_4, cast_5, cast_1, cast_0, eq_self, decide_true, decide_false, wipeE, e_law_behind g sth r0 r1, isStrB, ixB, Sht.goes, Bool.not_not]
  · simp only [mOf, mOfZ, mOfR, asRt, entry, List.length_cons, List.length_nil, List.replicate, List.cons_append, List.nil_append, Nat.reduceAdd, Nat.reduceSub, fV, fVx, fC, fB, fBN, fU, fUN, fL, fIsi, fAndV, fOrV, fNotV, fTv, asB, asL, asT, fNotT, fAndT, fOrT, fIf, fIfN, fCh, fCl, fClN, aNil, aD, aN, aP, fNil, fCons, fTup, fLst, sNil, sSeq, sSet, sSetM, sRet, sRetN, sIf, sBrk, sCnt, sDrop, sFor, rSeq, sFrz, iL, iT, iS, iE, iZ, oNone, oSome, fSlA, fSlL, fPot, sPot, gPot, sPotN, List.getElem?_cons_zero, List.getElem?_cons_succ, List.set_cons_zero, List.set_cons_succ, Option.bind_some, Option.map_some, Option.bind_none, Option.map_none, List.all_cons, List.all_nil, Sl.dp, Bool.and_true, Bool.true_and, and_self, and_true, true_and, if_true, if_false, ite_true, ite_false, Bool.false_eq_true, reduceCtorEq, reduceIte, Bool.not_true, Bool.not_false, gEq_str, gEq_int, gAdd_int, le_line, Nat.reduceLeDiff, Nat.reduceEqDiff, ne_eq, not_false_eq_true, cast_2, cast_3, cast_4, cast_5, cast_1, cast_0, eq_self, decide_true, decide_false, wipeE, ixI]
theorem wp_run (g : S.Ok) (st : Stand S.p hs) {π : Pt} {Q : List PyData → Pt → Prop} {most : Int} (h0 : 0 ≤ most) (h1 : most ≤ 1000)
    (h : ∀ (rs : List Int) π', (rs.length : Int) ≤ most → (∀ r ∈ rs, 0 ≤ r ∧ r < S.ts.length) → (∃ x, (S.gone hs 0 rs).2 = some x) → Q (rs.map PyData.int) π') : wp (m__law_run [.p, .d S.d, .d (tup hs), .d (.int most)] π) Q := by
  have ht2 := g.t2
  have lt2 : (2 ≤ sizeLine) = True := eq_true (by rw [sizeLine_eq]; omega)
  unfold m__law_run g__law_run mOfR
  simp (config := { failIfUnchanged := false }) only [mOf, mOfZ, mOfR, asB_b, asL_l, asT_t, asRt_rt, asRt_nx, wp_asRt, wp_asB, wp_asL, wp_asT, wp_bind, wp_map, wp_some, wp_fLc, wp_iR1, wp_iA, wp_iE, wp_iS, wp_iR2, caseA_l, caseA_t, caseL_l, caseT_t, caseB_b, caseI_i, caseS_s, entry, List.length_cons, List.length_nil, List.replicate, List.cons_append, List.nil_append, Nat.reduceAdd, Nat.reduceSub, fV, fVx, fC, fB, fBN, fU, fUN, fL, fIsi_ap, fAndV, fOrV, fNotV, fTv, fNotT, fAndT, fOrT, fIf, fIfN, fCh, fCl, fClN, aNil, aD, aN, aP, fNil, fCons, fTup, fLst, sNil, sSeq, sSet, sSetM, sRet, sRetN, sIf, sBrk, sCnt, sDrop, sFor, rSeq, sFrz, iL, iT, iZ, oNone, oSome, fSlA, fSlL, fPot, sPot, gPot, sPotN, tName, tTupG, tsCons, tsNil, sPar, sPar3, notP, sUnp, wipeE, sApp, sExt, sSetIx, List.getElem?_cons_zero, List.getElem?_cons_succ, List.set_cons_zero, List.set_cons_succ, Option.bind_some, Option.map_some, Option.bind_none, Option.map_none, List.all_cons, List.all_nil, Sl.dp, Bool.and_true, Bool.true_and, and_self, and_true, true_and, if_true, if_false, ite_true, ite_false, Bool.false_eq_true, reduceCtorEq, reduceIte, Bool.not_true, Bool.not_false, gEq_str, gEq_int, gAdd_int, le_line, Nat.reduceLeDiff, Nat.reduceEqDiff, ne_eq, not_false_eq_true, cast_2, cast_3, cast_4, cast_5, cast_1, cast_0, eq_self, decide_true, decide_false, sUnpM, setAll, rVar, lt2, okR_of (j := most) (by omega) (by omega)]
  refine wp_for (fun i ρ _ => ∃ (rs h : List Int) (s6 s7 : Sl), ρ = [.p, .d S.d, .d (tup hs), .d (.int most), .d (tup h), .m (rs.map PyData.int), s6, s7, .e] ∧ rs.length ≤ i ∧ (∀ r ∈ rs, 0 ≤ r ∧ r < S.ts.length) ∧ (S.gone hs 0 rs).2 = some h)
    ⟨[], hs, .e, .e, rfl, Nat.le_refl _, (fun _ h => nomatch h), rfl⟩ ?_ ?_
  · rintro j x hx ρ π ⟨rs, hh, s6, s7, rfl, hl, hr, hg⟩
    obtain ⟨rfl, hj⟩ := upTo_get hx
    refine ⟨_, rfl, ?_⟩
    have sth := gone_stand g rs hs 0 st hr hh hg
    have ge := gEq_ints false ((ups S.ts.length).filter (Sht.goes S hh)) []
    rw [List.map_nil] at ge
    have en : (if false = true then !decide ((ups S.ts.length).filter (Sht.goes S hh) = []) else decide ((ups S.ts.length).filter (Sht.goes S hh) = [])) = decide ((ups S.ts.length).filter (Sht.goes S hh) = []) := rfl
    rw [en] at ge
    simp (config := { failIfUnchanged := false }) only [mOf, mOfZ, mOfR, asB_b, asL_l, asT_t, asRt_rt, asRt_nx, wp_asRt, wp_asB, wp_asL, wp_asT, wp_bind, wp_map, wp_some, wp_fLc, wp_iR1, wp_iA, wp_iE, wp_iS, wp_iR2, caseA_l, caseA_t, caseL_l, caseT_t, caseB_b, caseI_i, caseS_s, entry, List.length_cons, List.length_nil, List.replicate, List.cons_append, List.nil_append, Nat.reduceAdd, Nat.reduceSub, fV, fVx, fC, fB, fBN, fU, fUN, fL, fIsi_ap, fAndV, fOrV, fNotV, fTv, fNotT, fAndT, fOrT, fIf, fIfN, fCh, fCl, fClN, aNil, aD, aN, aP, fNil, fCons, fTup, fLst, sNil, sSeq, sSet, sSetM, sRet, sRetN, sIf, sBrk, sCnt, sDrop, sFor, rSeq, sFrz, iL, iT, iZ, oNone, oSome, fSlA, fSlL, fPot, sPot, gPot, sPotN, tName, tTupG, tsCons, tsNil, sPar, sPar3, notP, sUnp, wipeE, sApp, sExt, sSetIx, List.getElem?_cons_zero, List.getElem?_cons_succ, List.set_cons_zero, List.set_cons_succ, Option.bind_some, Option.map_some, Option.bind_none, Option.map_none, List.all_cons, List.all_nil, Sl.dp, Bool.and_true, Bool.true_and, and_self, and_true, true_and, if_true, if_false, ite_true, ite_false, Bool.false_eq_true, reduceCtorEq, reduceIte, Bool.not_true, Bool.not_false, gEq_str, gEq_int, gAdd_int, le_line, Nat.reduceLeDiff, Nat.reduceEqDiff, ne_eq, not_false_eq_true, cast_2, cast_3, cast_4, cast_5, cast_1, cast_0, eq_self, decide_true, decide_false, someE g sth, ge]
    cases hn : decide ((ups S.ts.length).filter (Sht.goes S hh) = []) with
    | true =>
      simp (config := { failIfUnchanged := false }) only [mOf, mOfZ, mOfR, asB_b, asL_l, asT_t, asRt_rt, asRt_nx, wp_asRt, wp_asB, wp_asL, wp_asT, wp_bind, wp_map, wp_some, wp_fLc, wp_iR1, wp_iA, wp_iE, wp_iS, wp_iR2, caseA_l, caseA_t, caseL_l, caseT_t, caseB_b, caseI_i, caseS_s, entry, List.length_cons, List.length_nil, List.replicate, List.cons_append, List.nil_append, Nat.reduceAdd, Nat.reduceSub, fV, fVx, fC, fB, fBN, fU, fUN, fL, fIsi_ap, fAndV, fOrV, fNotV, fTv, fNotT, fAndT, fOrT, fIf, fIfN, fCh, fCl, fClN, aNil, aD, aN, aP, fNil, fCons, fTup, fLst, sNil, sSeq, sSet, sSetM, sRet, sRetN, sIf, sBrk, sCnt, sDrop, sFor, rSeq, sFrz, iL, iT, iZ, oNone, oSome, fSlA, fSlL, fPot, sPot, gPot, sPotN, tName, tTupG, tsCons, tsNil, sPar, sPar3, notP, sUnp, wipeE, sApp, sExt, sSetIx, List.getElem?_cons_zero, List.getElem?_cons_succ, List.set_cons_zero, List.set_cons_succ, Option.bind_some, Option.map_some, Option.bind_none, Option.map_none, List.all_cons, List.all_nil, Sl.dp, Bool.and_true, Bool.true_and, and_self, and_true, true_and, if_true, if_false, ite_true, ite_false, Bool.false_eq_true, reduceCtorEq, reduceIte, Bool.not_true, Bool.not_false, gEq_str, gEq_int, gAdd_int, le_line, Nat.reduceLeDiff, Nat.reduceEqDiff, ne_eq, not_false_eq_true, cast_2, cast_3, cast_4, cast_5, cast_1, cast_0, eq_self, decide_true, decide_false]
      exact h rs π (by omega) hr ⟨_, hg⟩
    | false =>
      have hne : ((ups S.ts.length).filter (Sht.goes S hh)).map PyData.int ≠ [] := fun z => of_decide_eq_false hn (List.map_eq_nil_iff.mp z)
      have hle : (((ups S.ts.length).filter (Sht.goes S hh)).map PyData.int).length ≤ 1000000 := by
        have := List.length_filter_le (Sht.goes S hh) (ups S.ts.length)
        rw [ups_len] at this
        rw [List.length_map]; omega
      have hlt : ((rs.map PyData.int).length < sizeLine) = True := lt_line1 (by rw [List.length_map]; omega)
      simp (config := { failIfUnchanged := false }) only [mOf, mOfZ, mOfR, asB_b, asL_l, asT_t, asRt_rt, asRt_nx, wp_asRt, wp_asB, wp_asL, wp_asT, wp_bind, wp_map, wp_some, wp_fLc, wp_iR1, wp_iA, wp_iE, wp_iS, wp_iR2, caseA_l, caseA_t, caseL_l, caseT_t, caseB_b, caseI_i, caseS_s, entry, List.length_cons, List.length_nil, List.replicate, List.cons_append, List.nil_append, Nat.reduceAdd, Nat.reduceSub, fV, fVx, fC, fB, fBN, fU, fUN, fL, fIsi_ap, fAndV, fOrV, fNotV, fTv, fNotT, fAndT, fOrT, fIf, fIfN, fCh, fCl, fClN, aNil, aD, aN, aP, fNil, fCons, fTup, fLst, sNil, sSeq, sSet, sSetM, sRet, sRetN, sIf, sBrk, sCnt, sDrop, sFor, rSeq, sFrz, iL, iT, iZ, oNone, oSome, fSlA, fSlL, fPot, sPot, gPot, sPotN, tName, tTupG, tsCons, tsNil, sPar, sPar3, notP, sUnp, wipeE, sApp, sExt, sSetIx, List.getElem?_cons_zero, List.getElem?_cons_succ, List.set_cons_zero, List.set_cons_succ, Option.bind_some, Option.map_some, Option.bind_none, Option.map_none, List.all_cons, List.all_nil, Sl.dp, Bool.and_true, Bool.true_and, and_self, and_true, true_and, if_true, if_false, ite_true, ite_false, Bool.false_eq_true, reduceCtorEq, reduceIte, Bool.not_true, Bool.not_false, gEq_str, gEq_int, gAdd_int, le_line, Nat.reduceLeDiff, Nat.reduceEqDiff, ne_eq, not_false_eq_true, cast_2, cast_3, cast_4, cast_5, cast_1, cast_0, eq_self, decide_true, decide_false]
      refine pk.lst hne hle fun x π m => ?_
      obtain ⟨r, hm, rfl⟩ := List.mem_map.mp m
      obtain ⟨hm1, hm2⟩ := List.mem_filter.mp hm
      obtain ⟨r0, r1⟩ := ups_mem hm1
      have hm3 : (S.can hh r && decide (maxI (S.late hh r) ≤ 9)) = true := hm2
      simp (config := { failIfUnchanged := false }) only [mOf, mOfZ, mOfR, asB_b, asL_l, asT_t, asRt_rt, asRt_nx, wp_asRt, wp_asB, wp_asL, wp_asT, wp_bind, wp_map, wp_some, wp_fLc, wp_iR1, wp_iA, wp_iE, wp_iS, wp_iR2, caseA_l, caseA_t, caseL_l, caseT_t, caseB_b, caseI_i, caseS_s, entry, List.length_cons, List.length_nil, List.replicate, List.cons_append, List.nil_append, Nat.reduceAdd, Nat.reduceSub, fV, fVx, fC, fB, fBN, fU, fUN, fL, fIsi_ap, fAndV, fOrV, fNotV, fTv, fNotT, fAndT, fOrT, fIf, fIfN, fCh, fCl, fClN, aNil, aD, aN, aP, fNil, fCons, fTup, fLst, sNil, sSeq, sSet, sSetM, sRet, sRetN, sIf, sBrk, sCnt, sDrop, sFor, rSeq, sFrz, iL, iT, iZ, oNone, oSome, fSlA, fSlL, fPot, sPot, gPot, sPotN, tName, tTupG, tsCons, tsNil, sPar, sPar3, notP, sUnp, wipeE, sApp, sExt, sSetIx, List.getElem?_cons_zero, List.getElem?_cons_succ, List.set_cons_zero, List.set_cons_succ, Option.bind_some, Option.map_some, Option.bind_none, Option.map_none, List.all_cons, List.all_nil, Sl.dp, Bool.and_true, Bool.true_and, and_self, and_true, true_and, if_true, if_false, ite_true, ite_false, Bool.false_eq_true, reduceCtorEq, reduceIte, Bool.not_true, Bool.not_false, gEq_str, gEq_int, gAdd_int, le_line, Nat.reduceLeDiff, Nat.reduceEqDiff, ne_eq, not_false_eq_true, cast_2, cast_3, cast_4, cast_5, cast_1, cast_0, eq_self, decide_true, decide_false, hlt, gNeg, gIx_lst, atI_last, e_law_behind g sth r0 r1, lawB_some hm3]
      refine ⟨rs ++ [r], S.late hh r, _, _, by rw [List.map_append]; rfl, by rw [List.length_append]; simp; omega, fun q hq => ?_, gone_snoc hg hm2⟩
      rcases List.mem_append.mp hq with z | z
      · exact hr q z
      · rw [List.mem_singleton] at z
        rw [z]; exact ⟨r0, r1⟩
  · rintro ρ' π ⟨rs, hh, s6, s7, rfl, hl, hr, hg⟩
    rw [upTo_length] at hl
    simp (config := { failIfUnchanged := false }) only [mOf, mOfZ, mOfR, asB_b, asL_l, asT_t, asRt_rt, asRt_nx, wp_asRt, wp_asB, wp_asL, wp_asT, wp_bind, wp_map, wp_some, wp_fLc, wp_iR1, wp_iA, wp_iE, wp_iS, wp_iR2, caseA_l, caseA_t, caseL_l, caseT_t, caseB_b, caseI_i, caseS_s, entry, List.length_cons, List.length_nil, List.replicate, List.cons_append, List.nil_append, Nat.reduceAdd, Nat.reduceSub, fV, fVx, fC, fB, fBN, fU, fUN, fL, fIsi_ap, fAndV, fOrV, fNotV, fTv, fNotT, fAndT, fOrT, fIf, fIfN, fCh, fCl, fClN, aNil, aD, aN, aP, fNil, fCons, fTup, fLst, sNil, sSeq, sSet, sSetM, sRet, sRetN, sIf, sBrk, sCnt, sDrop, sFor, rSeq, sFrz, iL, iT, iZ, oNone, oSome, fSlA, fSlL, fPot, sPot, gPot, sPotN, tName, tTupG, tsCons, tsNil, sPar, sPar3, notP, sUnp, wipeE, sApp, sExt, sSetIx, List.getElem?_cons_zero, List.getElem?_cons_succ, List.set_cons_zero, List.set_cons_succ, Option.bind_some, Option.map_some, Option.bind_none, Option.map_none, List.all_cons, List.all_nil, Sl.dp, Bool.and_true, Bool.true_and, and_self, and_true, true_and, if_true, if_false, ite_true, ite_false, Bool.false_eq_true, reduceCtorEq, reduceIte, Bool.not_true, Bool.not_false, gEq_str, gEq_int, gAdd_int, le_line, Nat.reduceLeDiff, Nat.reduceEqDiff, ne_eq, not_false_eq_true, cast_2, cast_3, cast_4, cast_5, cast_1, cast_0, eq_self, decide_true, decide_false]
    exact h rs π (by omega) hr ⟨_, hg⟩
end
end Law11

set_option maxHeartbeats 8000000
namespace Law11
open PySem DL Pg
set_option autoImplicit false
/-- tasks' numbers, at most n of them -/
def RO (S : Sht) (n : Nat) (xs : List PyData) : Prop := ∃ rs : List Int, xs = rs.map PyData.int ∧ (∀ r ∈ rs, 0 ≤ r ∧ r < S.ts.length) ∧ rs.length ≤ n
section
variable {S : Sht} {n m : Nat} {xs ys : List PyData}
theorem RO.nil : RO S n [] := ⟨[], rfl, (fun _ h => nomatch h), Nat.zero_le _⟩
theorem RO.one {r : Int} (h0 : 0 ≤ r) (h1 : r < S.ts.length) : RO S 1 [.int r] := ⟨[r], rfl, fun q hq => one_mem h0 h1 hq, Nat.le_refl _⟩
theorem RO.append (h : RO S n xs) (k : RO S m ys) : RO S (n + m) (xs ++ ys) := by
  obtain ⟨a, rfl, a1, a2⟩ := h
  obtain ⟨b, rfl, b1, b2⟩ := k
  refine ⟨a ++ b, by rw [List.map_append], fun r hr => ?_, by rw [List.length_append]; omega⟩
  rcases List.mem_append.mp hr with z | z
  · exact a1 r z
  · exact b1 r z
theorem RO.take (k : Nat) (h : RO S n xs) : RO S n (xs.take k) := by
  obtain ⟨a, rfl, a1, a2⟩ := h
  exact ⟨a.take k, by rw [List.map_take], fun r hr => a1 r (List.mem_of_mem_take hr), by rw [List.length_take]; omega⟩
theorem RO.drop (k : Nat) (h : RO S n xs) : RO S n (xs.drop k) := by
  obtain ⟨a, rfl, a1, a2⟩ := h
  exact ⟨a.drop k, by rw [List.map_drop], fun r hr => a1 r (List.mem_of_mem_drop hr), by rw [List.length_drop]; omega⟩
theorem RO.rev (h : RO S n xs) : RO S n xs.reverse := by
  obtain ⟨a, rfl, a1, a2⟩ := h
  exact ⟨a.reverse, by rw [List.map_reverse], fun r hr => a1 r (List.mem_reverse.mp hr), by rw [List.length_reverse]; exact a2⟩
theorem RO.mono (h : RO S n xs) (k : n ≤ m) : RO S m xs := let ⟨a, e, a1, a2⟩ := h; ⟨a, e, a1, Nat.le_trans a2 k⟩
theorem RO.of (h : ∀ x ∈ xs, ∃ d : Int, x = .int d ∧ 0 ≤ d ∧ d ≤ S.ts.length - 1) (hl : xs.length ≤ n) : RO S n xs := by
  obtain ⟨a, rfl, a1⟩ := ints_out h
  exact ⟨a, rfl, fun r hr => by have := a1 r hr; omega, by rw [List.length_map] at hl; exact hl⟩
theorem RO.rep {d : Int} (h0 : 0 ≤ d) (h1 : d < S.ts.length) (k : Nat) : RO S k (List.replicate k [PyData.int d]).flatten := by
  have e : (List.replicate k [PyData.int d]).flatten = (List.replicate k d).map PyData.int := by
    induction k with
    | zero => rfl
    | succ k ih => rw [List.replicate_succ, List.flatten_cons, ih, List.replicate_succ, List.map_cons]; rfl
  exact ⟨_, e, fun r hr => by rw [(List.mem_replicate.mp hr).2]; exact ⟨h0, h1⟩, by rw [List.length_replicate]; exact Nat.le_refl _⟩
theorem RO.right (g : S.Ok) {hs : List Int} (st : Stand S.p hs) (h : RO S 400 xs) (π : Pt) : m__law_run_right [.d S.d, .d (tup hs), .d (.list xs)] π = some (.bool true, π) := by
  obtain ⟨a, rfl, a1, a2⟩ := h
  exact e_run_right g st a1 a2 π
end
theorem wp_law_right {π : Pt} {Q : PyData → Pt → Prop} (hq : ∀ π', Q (.bool true) π') : wp (m__law_right [.p] π) Q := by
  unfold m__law_right g__law_right
  simp (config := { failIfUnchanged := false }) only [mOf, mOfZ, mOfR, asB_b, asL_l, asT_t, asRt_rt, asRt_nx, wp_asRt, wp_asB, wp_asL, wp_asT, wp_bind, wp_map, wp_some, wp_fLc, wp_iR1, wp_iA, wp_iE, wp_iS, wp_iR2, caseA_l, caseA_t, caseL_l, caseT_t, caseB_b, caseI_i, caseS_s, entry, List.length_cons, List.length_nil, List.replicate, List.cons_append, List.nil_append, Nat.reduceAdd, Nat.reduceSub, fV, fVx, fC, fB, fBN, fU, fUN, fL, fIsi_ap, fAndV, fOrV, fNotV, fTv, fNotT, fAndT, fOrT, fIf, fIfN, fCh, fCl, fClN, aNil, aD, aN, aP, fNil, fCons, fTup, fLst, sNil, sSeq, sSet, sSetM, sRet, sRetN, sIf, sBrk, sCnt, sDrop, sFor, rSeq, sFrz, iL, iT, iZ, oNone, oSome, fSlA, fSlL, fPot, sPot, gPot, sPotN, tName, tTupG, tsCons, tsNil, sPar, sPar3, notP, sUnp, wipeE, sApp, sExt, sSetIx, List.getElem?_cons_zero, List.getElem?_cons_succ, List.set_cons_zero, List.set_cons_succ, Option.bind_some, Option.map_some, Option.bind_none, Option.map_none, List.all_cons, List.all_nil, Sl.dp, Bool.and_true, Bool.true_and, and_self, and_true, true_and, if_true, if_false, ite_true, ite_false, Bool.false_eq_true, reduceCtorEq, reduceIte, Bool.not_true, Bool.not_false, gEq_str, gEq_int, gAdd_int, le_line, Nat.reduceLeDiff, Nat.reduceEqDiff, ne_eq, not_false_eq_true, cast_2, cast_3, cast_4, cast_5, cast_1, cast_0, eq_self, decide_true, decide_false]
  refine pk.lst (by simp) (by simp) fun x π m1 => ?_
  obtain ⟨k1, rfl, p1, p2⟩ : ∃ k : Int, x = .int k ∧ 1 ≤ k ∧ k ≤ 16 := by
    simp only [List.mem_cons, List.not_mem_nil, or_false] at m1
    rcases m1 with rfl | rfl | rfl <;> exact ⟨_, rfl, by omega, by omega⟩
  simp (config := { failIfUnchanged := false }) only [mOf, mOfZ, mOfR, asB_b, asL_l, asT_t, asRt_rt, asRt_nx, wp_asRt, wp_asB, wp_asL, wp_asT, wp_bind, wp_map, wp_some, wp_fLc, wp_iR1, wp_iA, wp_iE, wp_iS, wp_iR2, caseA_l, caseA_t, caseL_l, caseT_t, caseB_b, caseI_i, caseS_s, entry, List.length_cons, List.length_nil, List.replicate, List.cons_append, List.nil_append, Nat.reduceAdd, Nat.reduceSub, fV, fVx, fC, fB, fBN, fU, fUN, fL, fIsi_ap, fAndV, fOrV, fNotV, fTv, fNotT, fAndT, fOrT, fIf, fIfN, fCh, fCl, fClN, aNil, aD, aN, aP, fNil, fCons, fTup, fLst, sNil, sSeq, sSet, sSetM, sRet, sRetN, sIf, sBrk, sCnt, sDrop, sFor, rSeq, sFrz, iL, iT, iZ, oNone, oSome, fSlA, fSlL, fPot, sPot, gPot, sPotN, tName, tTupG, tsCons, tsNil, sPar, sPar3, notP, sUnp, wipeE, sApp, sExt, sSetIx, List.getElem?_cons_zero, List.getElem?_cons_succ, List.set_cons_zero, List.set_cons_succ, Option.bind_some, Option.map_some, Option.bind_none, Option.map_none, List.all_cons, List.all_nil, Sl.dp, Bool.and_true, Bool.true_and, and_self, and_true, true_and, if_true, if_false, ite_true, ite_false, Bool.false_eq_true, reduceCtorEq, reduceIte, Bool.not_true, Bool.not_false, gEq_str, gEq_int, gAdd_int, le_line, Nat.reduceLeDiff, Nat.reduceEqDiff, ne_eq, not_false_eq_true, cast_2, cast_3, cast_4, cast_5, cast_1, cast_0, eq_self, decide_true, decide_false]
  refine pk.lst (by simp) (by simp) fun x π m1 => ?_
  obtain ⟨k2, rfl, p3, p4⟩ : ∃ k : Int, x = .int k ∧ 1 ≤ k ∧ k ≤ 24 := by
    simp only [List.mem_cons, List.not_mem_nil, or_false] at m1
    rcases m1 with rfl | rfl <;> exact ⟨_, rfl, by omega, by omega⟩
  simp (config := { failIfUnchanged := false }) only [mOf, mOfZ, mOfR, asB_b, asL_l, asT_t, asRt_rt, asRt_nx, wp_asRt, wp_asB, wp_asL, wp_asT, wp_bind, wp_map, wp_some, wp_fLc, wp_iR1, wp_iA, wp_iE, wp_iS, wp_iR2, caseA_l, caseA_t, caseL_l, caseT_t, caseB_b, caseI_i, caseS_s, entry, List.length_cons, List.length_nil, List.replicate, List.cons_append, List.nil_append, Nat.reduceAdd, Nat.reduceSub, fV, fVx, fC, fB, fBN, fU, fUN, fL, fIsi_ap, fAndV, fOrV, fNotV, fTv, fNotT, fAndT, fOrT, fIf, fIfN, fCh, fCl, fClN, aNil, aD, aN, aP, fNil, fCons, fTup, fLst, sNil, sSeq, sSet, sSetM, sRet, sRetN, sIf, sBrk, sCnt, sDrop, sFor, rSeq, sFrz, iL, iT, iZ, oNone, oSome, fSlA, fSlL, fPot, sPot, gPot, sPotN, tName, tTupG, tsCons, tsNil, sPar, sPar3, notP, sUnp, wipeE, sApp, sExt, sSetIx, List.getElem?_cons_zero, List.getElem?_cons_succ, List.set_cons_zero, List.set_cons_succ, Option.bind_some, Option.map_some, Option.bind_none, Option.map_none, List.all_cons, List.all_nil, Sl.dp, Bool.and_true, Bool.true_and, and_self, and_true, true_and, if_true, if_false, ite_true, ite_false, Bool.false_eq_true, reduceCtorEq, reduceIte, Bool.not_true, Bool.not_false, gEq_str, gEq_int, gAdd_int, le_line, Nat.reduceLeDiff, Nat.reduceEqDiff, ne_eq, not_false_eq_true, cast_2, cast_3, cast_4, cast_5, cast_1, cast_0, eq_self, decide_true, decide_false]
  refine wp_sheet p1 p2 p3 p4 fun S π g => ?_
  have hp1 := g.p1
  have hp2 := g.p2
  have ht1 := g.t1
  have ht2 := g.t2
  simp (config := { failIfUnchanged := false }) only [mOf, mOfZ, mOfR, asB_b, asL_l, asT_t, asRt_rt, asRt_nx, wp_asRt, wp_asB, wp_asL, wp_asT, wp_bind, wp_map, wp_some, wp_fLc, wp_iR1, wp_iA, wp_iE, wp_iS, wp_iR2, caseA_l, caseA_t, caseL_l, caseT_t, caseB_b, caseI_i, caseS_s, entry, List.length_cons, List.length_nil, List.replicate, List.cons_append, List.nil_append, Nat.reduceAdd, Nat.reduceSub, fV, fVx, fC, fB, fBN, fU, fUN, fL, fIsi_ap, fAndV, fOrV, fNotV, fTv, fNotT, fAndT, fOrT, fIf, fIfN, fCh, fCl, fClN, aNil, aD, aN, aP, fNil, fCons, fTup, fLst, sNil, sSeq, sSet, sSetM, sRet, sRetN, sIf, sBrk, sCnt, sDrop, sFor, rSeq, sFrz, iL, iT, iZ, oNone, oSome, fSlA, fSlL, fPot, sPot, gPot, sPotN, tName, tTupG, tsCons, tsNil, sPar, sPar3, notP, sUnp, wipeE, sApp, sExt, sSetIx, List.getElem?_cons_zero, List.getElem?_cons_succ, List.set_cons_zero, List.set_cons_succ, Option.bind_some, Option.map_some, Option.bind_none, Option.map_none, List.all_cons, List.all_nil, Sl.dp, Bool.and_true, Bool.true_and, and_self, and_true, true_and, if_true, if_false, ite_true, ite_false, Bool.false_eq_true, reduceCtorEq, reduceIte, Bool.not_true, Bool.not_false, gEq_str, gEq_int, gAdd_int, le_line, Nat.reduceLeDiff, Nat.reduceEqDiff, ne_eq, not_false_eq_true, cast_2, cast_3, cast_4, cast_5, cast_1, cast_0, eq_self, decide_true, decide_false, gIx_tup, atI_1, atI_2, atI_3, gLen_tup, List.length_map, okR_of (j := S.p) (by omega) (by omega)]
  refine ⟨len_line (by rw [upTo_length]; omega), wp_lcY (fun x => ∃ n : Int, x = .int n ∧ 0 ≤ n ∧ n ≤ 9) (fun x hx π => ⟨_, rfl, ?_⟩) fun hi π fl f2 => ?_⟩
  · simp (config := { failIfUnchanged := false }) only [mOf, mOfZ, mOfR, asB_b, asL_l, asT_t, asRt_rt, asRt_nx, wp_asRt, wp_asB, wp_asL, wp_asT, wp_bind, wp_map, wp_some, wp_fLc, wp_iR1, wp_iA, wp_iE, wp_iS, wp_iR2, caseA_l, caseA_t, caseL_l, caseT_t, caseB_b, caseI_i, caseS_s, entry, List.length_cons, List.length_nil, List.replicate, List.cons_append, List.nil_append, Nat.reduceAdd, Nat.reduceSub, fV, fVx, fC, fB, fBN, fU, fUN, fL, fIsi_ap, fAndV, fOrV, fNotV, fTv, fNotT, fAndT, fOrT, fIf, fIfN, fCh, fCl, fClN, aNil, aD, aN, aP, fNil, fCons, fTup, fLst, sNil, sSeq, sSet, sSetM, sRet, sRetN, sIf, sBrk, sCnt, sDrop, sFor, rSeq, sFrz, iL, iT, iZ, oNone, oSome, fSlA, fSlL, fPot, sPot, gPot, sPotN, tName, tTupG, tsCons, tsNil, sPar, sPar3, notP, sUnp, wipeE, sApp, sExt, sSetIx, List.getElem?_cons_zero, List.getElem?_cons_succ, List.set_cons_zero, List.set_cons_succ, Option.bind_some, Option.map_some, Option.bind_none, Option.map_none, List.all_cons, List.all_nil, Sl.dp, Bool.and_true, Bool.true_and, and_self, and_true, true_and, if_true, if_false, ite_true, ite_false, Bool.false_eq_true, reduceCtorEq, reduceIte, Bool.not_true, Bool.not_false, gEq_str, gEq_int, gAdd_int, le_line, Nat.reduceLeDiff, Nat.reduceEqDiff, ne_eq, not_false_eq_true, cast_2, cast_3, cast_4, cast_5, cast_1, cast_0, eq_self, decide_true, decide_false]
    refine pk.lst (by simp) (by simp) fun y π m => ?_
    simp only [List.mem_cons, List.not_mem_nil, or_false] at m
    rcases m with rfl | rfl | rfl | rfl <;> exact ⟨_, rfl, by omega, by omega⟩
  obtain ⟨hs1, rfl, q1⟩ := ints_out f2
  rw [upTo_length, List.length_map] at fl
  have st1 : Stand S.p hs1 := ⟨by omega, q1⟩
  simp (config := { failIfUnchanged := false }) only [mOf, mOfZ, mOfR, asB_b, asL_l, asT_t, asRt_rt, asRt_nx, wp_asRt, wp_asB, wp_asL, wp_asT, wp_bind, wp_map, wp_some, wp_fLc, wp_iR1, wp_iA, wp_iE, wp_iS, wp_iR2, caseA_l, caseA_t, caseL_l, caseT_t, caseB_b, caseI_i, caseS_s, entry, List.length_cons, List.length_nil, List.replicate, List.cons_append, List.nil_append, Nat.reduceAdd, Nat.reduceSub, fV, fVx, fC, fB, fBN, fU, fUN, fL, fIsi_ap, fAndV, fOrV, fNotV, fTv, fNotT, fAndT, fOrT, fIf, fIfN, fCh, fCl, fClN, aNil, aD, aN, aP, fNil, fCons, fTup, fLst, sNil, sSeq, sSet, sSetM, sRet, sRetN, sIf, sBrk, sCnt, sDrop, sFor, rSeq, sFrz, iL, iT, iZ, oNone, oSome, fSlA, fSlL, fPot, sPot, gPot, sPotN, tName, tTupG, tsCons, tsNil, sPar, sPar3, notP, sUnp, wipeE, sApp, sExt, sSetIx, List.getElem?_cons_zero, List.getElem?_cons_succ, List.set_cons_zero, List.set_cons_succ, Option.bind_some, Option.map_some, Option.bind_none, Option.map_none, List.all_cons, List.all_nil, Sl.dp, Bool.and_true, Bool.true_and, and_self, and_true, true_and, if_true, if_false, ite_true, ite_false, Bool.false_eq_true, reduceCtorEq, reduceIte, Bool.not_true, Bool.not_false, gEq_str, gEq_int, gAdd_int, le_line, Nat.reduceLeDiff, Nat.reduceEqDiff, ne_eq, not_false_eq_true, cast_2, cast_3, cast_4, cast_5, cast_1, cast_0, eq_self, decide_true, decide_false, gTuple, gIx_tup, atI_3, okR_of (j := S.p) (by omega) (by omega)]
  refine ⟨len_line (by rw [upTo_length]; omega), wp_lcY (fun x => ∃ n : Int, x = .int n ∧ 0 ≤ n ∧ n ≤ 9) (fun x hx π => ⟨_, rfl, ?_⟩) fun hi π fl2 f2 => ?_⟩
  · simp (config := { failIfUnchanged := false }) only [mOf, mOfZ, mOfR, asB_b, asL_l, asT_t, asRt_rt, asRt_nx, wp_asRt, wp_asB, wp_asL, wp_asT, wp_bind, wp_map, wp_some, wp_fLc, wp_iR1, wp_iA, wp_iE, wp_iS, wp_iR2, caseA_l, caseA_t, caseL_l, caseT_t, caseB_b, caseI_i, caseS_s, entry, List.length_cons, List.length_nil, List.replicate, List.cons_append, List.nil_append, Nat.reduceAdd, Nat.reduceSub, fV, fVx, fC, fB, fBN, fU, fUN, fL, fIsi_ap, fAndV, fOrV, fNotV, fTv, fNotT, fAndT, fOrT, fIf, fIfN, fCh, fCl, fClN, aNil, aD, aN, aP, fNil, fCons, fTup, fLst, sNil, sSeq, sSet, sSetM, sRet, sRetN, sIf, sBrk, sCnt, sDrop, sFor, rSeq, sFrz, iL, iT, iZ, oNone, oSome, fSlA, fSlL, fPot, sPot, gPot, sPotN, tName, tTupG, tsCons, tsNil, sPar, sPar3, notP, sUnp, wipeE, sApp, sExt, sSetIx, List.getElem?_cons_zero, List.getElem?_cons_succ, List.set_cons_zero, List.set_cons_succ, Option.bind_some, Option.map_some, Option.bind_none, Option.map_none, List.all_cons, List.all_nil, Sl.dp, Bool.and_true, Bool.true_and, and_self, and_true, true_and, if_true, if_false, ite_true, ite_false, Bool.false_eq_true, reduceCtorEq, reduceIte, Bool.not_true, Bool.not_false, gEq_str, gEq_int, gAdd_int, le_line, Nat.reduceLeDiff, Nat.reduceEqDiff, ne_eq, not_false_eq_true, cast_2, cast_3, cast_4, cast_5, cast_1, cast_0, eq_self, decide_true, decide_false]
    refine dr.wp (by omega) (by omega) fun d π d1 d2 => ⟨d, rfl, d1, by omega⟩
  obtain ⟨hs2, rfl, q2⟩ := ints_out f2
  rw [upTo_length, List.length_map] at fl2
  have st2 : Stand S.p hs2 := ⟨by omega, q2⟩
  have items : ∀ x ∈ [tup S.fs, PyData.tuple (hs1.map PyData.int), PyData.tuple (hs2.map PyData.int)], ∃ hs, x = tup hs ∧ Stand S.p hs := fun x hx => by
    simp only [List.mem_cons, List.not_mem_nil, or_false] at hx
    rcases hx with rfl | rfl | rfl
    · exact ⟨_, rfl, g.f⟩
    · exact ⟨_, rfl, st1⟩
    · exact ⟨_, rfl, st2⟩
  simp (config := { failIfUnchanged := false }) only [mOf, mOfZ, mOfR, asB_b, asL_l, asT_t, asRt_rt, asRt_nx, wp_asRt, wp_asB, wp_asL, wp_asT, wp_bind, wp_map, wp_some, wp_fLc, wp_iR1, wp_iA, wp_iE, wp_iS, wp_iR2, caseA_l, caseA_t, caseL_l, caseT_t, caseB_b, caseI_i, caseS_s, entry, List.length_cons, List.length_nil, List.replicate, List.cons_append, List.nil_append, Nat.reduceAdd, Nat.reduceSub, fV, fVx, fC, fB, fBN, fU, fUN, fL, fIsi_ap, fAndV, fOrV, fNotV, fTv, fNotT, fAndT, fOrT, fIf, fIfN, fCh, fCl, fClN, aNil, aD, aN, aP, fNil, fCons, fTup, fLst, sNil, sSeq, sSet, sSetM, sRet, sRetN, sIf, sBrk, sCnt, sDrop, sFor, rSeq, sFrz, iL, iT, iZ, oNone, oSome, fSlA, fSlL, fPot, sPot, gPot, sPotN, tName, tTupG, tsCons, tsNil, sPar, sPar3, notP, sUnp, wipeE, sApp, sExt, sSetIx, List.getElem?_cons_zero, List.getElem?_cons_succ, List.set_cons_zero, List.set_cons_succ, Option.bind_some, Option.map_some, Option.bind_none, Option.map_none, List.all_cons, List.all_nil, Sl.dp, Bool.and_true, Bool.true_and, and_self, and_true, true_and, if_true, if_false, ite_true, ite_false, Bool.false_eq_true, reduceCtorEq, reduceIte, Bool.not_true, Bool.not_false, gEq_str, gEq_int, gAdd_int, le_line, Nat.reduceLeDiff, Nat.reduceEqDiff, ne_eq, not_false_eq_true, cast_2, cast_3, cast_4, cast_5, cast_1, cast_0, eq_self, decide_true, decide_false, gTuple]
  generalize ([tup S.fs, PyData.tuple (hs1.map PyData.int), PyData.tuple (hs2.map PyData.int)] : List PyData) = its at items ⊢
  refine wp_for (fun _ ρ _ => ∃ s5 s6 s7 s8 s9 : Sl, ρ = [.p, .d S.d, .d (.int S.ts.length), .d (.int S.p), .d (tup hs1), s5, s6, s7, s8, s9, .e, .e, .e]) ⟨_, _, _, _, _, rfl⟩ ?_ ?_
  · rintro j x hx ρ π ⟨s5, s6, s7, s8, s9, rfl⟩
    obtain ⟨hs, rfl, st⟩ := items x (List.mem_of_getElem? hx)
    refine ⟨_, rfl, ?_⟩
    simp (config := { failIfUnchanged := false }) only [mOf, mOfZ, mOfR, asB_b, asL_l, asT_t, asRt_rt, asRt_nx, wp_asRt, wp_asB, wp_asL, wp_asT, wp_bind, wp_map, wp_some, wp_fLc, wp_iR1, wp_iA, wp_iE, wp_iS, wp_iR2, caseA_l, caseA_t, caseL_l, caseT_t, caseB_b, caseI_i, caseS_s, entry, List.length_cons, List.length_nil, List.replicate, List.cons_append, List.nil_append, Nat.reduceAdd, Nat.reduceSub, fV, fVx, fC, fB, fBN, fU, fUN, fL, fIsi_ap, fAndV, fOrV, fNotV, fTv, fNotT, fAndT, fOrT, fIf, fIfN, fCh, fCl, fClN, aNil, aD, aN, aP, fNil, fCons, fTup, fLst, sNil, sSeq, sSet, sSetM, sRet, sRetN, sIf, sBrk, sCnt, sDrop, sFor, rSeq, sFrz, iL, iT, iZ, oNone, oSome, fSlA, fSlL, fPot, sPot, gPot, sPotN, tName, tTupG, tsCons, tsNil, sPar, sPar3, notP, sUnp, wipeE, sApp, sExt, sSetIx, List.getElem?_cons_zero, List.getElem?_cons_succ, List.set_cons_zero, List.set_cons_succ, Option.bind_some, Option.map_some, Option.bind_none, Option.map_none, List.all_cons, List.all_nil, Sl.dp, Bool.and_true, Bool.true_and, and_self, and_true, true_and, if_true, if_false, ite_true, ite_false, Bool.false_eq_true, reduceCtorEq, reduceIte, Bool.not_true, Bool.not_false, gEq_str, gEq_int, gAdd_int, le_line, Nat.reduceLeDiff, Nat.reduceEqDiff, ne_eq, not_false_eq_true, cast_2, cast_3, cast_4, cast_5, cast_1, cast_0, eq_self, decide_true, decide_false, e_steps_right g st]
    refine pk.lst (by simp) (by simp) fun x π m1 => ?_
    obtain ⟨k3, rfl, p5, p6⟩ : ∃ k : Int, x = .int k ∧ 1 ≤ k ∧ k ≤ 30 := by
      simp only [List.mem_cons, List.not_mem_nil, or_false] at m1
      rcases m1 with rfl | rfl | rfl <;> exact ⟨_, rfl, by omega, by omega⟩
    simp (config := { failIfUnchanged := false }) only [mOf, mOfZ, mOfR, asB_b, asL_l, asT_t, asRt_rt, asRt_nx, wp_asRt, wp_asB, wp_asL, wp_asT, wp_bind, wp_map, wp_some, wp_fLc, wp_iR1, wp_iA, wp_iE, wp_iS, wp_iR2, caseA_l, caseA_t, caseL_l, caseT_t, caseB_b, caseI_i, caseS_s, entry, List.length_cons, List.length_nil, List.replicate, List.cons_append, List.nil_append, Nat.reduceAdd, Nat.reduceSub, fV, fVx, fC, fB, fBN, fU, fUN, fL, fIsi_ap, fAndV, fOrV, fNotV, fTv, fNotT, fAndT, fOrT, fIf, fIfN, fCh, fCl, fClN, aNil, aD, aN, aP, fNil, fCons, fTup, fLst, sNil, sSeq, sSet, sSetM, sRet, sRetN, sIf, sBrk, sCnt, sDrop, sFor, rSeq, sFrz, iL, iT, iZ, oNone, oSome, fSlA, fSlL, fPot, sPot, gPot, sPotN, tName, tTupG, tsCons, tsNil, sPar, sPar3, notP, sUnp, wipeE, sApp, sExt, sSetIx, List.getElem?_cons_zero, List.getElem?_cons_succ, List.set_cons_zero, List.set_cons_succ, Option.bind_some, Option.map_some, Option.bind_none, Option.map_none, List.all_cons, List.all_nil, Sl.dp, Bool.and_true, Bool.true_and, and_self, and_true, true_and, if_true, if_false, ite_true, ite_false, Bool.false_eq_true, reduceCtorEq, reduceIte, Bool.not_true, Bool.not_false, gEq_str, gEq_int, gAdd_int, le_line, Nat.reduceLeDiff, Nat.reduceEqDiff, ne_eq, not_false_eq_true, cast_2, cast_3, cast_4, cast_5, cast_1, cast_0, eq_self, decide_true, decide_false]
    refine wp_run g st (by omega) (by omega) fun rs π hl hr _ => ?_
    have ro : RO S 30 (rs.map PyData.int) := ⟨rs, rfl, hr, by omega⟩
    have rl : (rs.map PyData.int).length ≤ 30 := by rw [List.length_map]; omega
    generalize rs.map PyData.int = R at *
    simp (config := { failIfUnchanged := false }) only [mOf, mOfZ, mOfR, asB_b, asL_l, asT_t, asRt_rt, asRt_nx, wp_asRt, wp_asB, wp_asL, wp_asT, wp_bind, wp_map, wp_some, wp_fLc, wp_iR1, wp_iA, wp_iE, wp_iS, wp_iR2, caseA_l, caseA_t, caseL_l, caseT_t, caseB_b, caseI_i, caseS_s, entry, List.length_cons, List.length_nil, List.replicate, List.cons_append, List.nil_append, Nat.reduceAdd, Nat.reduceSub, fV, fVx, fC, fB, fBN, fU, fUN, fL, fIsi_ap, fAndV, fOrV, fNotV, fTv, fNotT, fAndT, fOrT, fIf, fIfN, fCh, fCl, fClN, aNil, aD, aN, aP, fNil, fCons, fTup, fLst, sNil, sSeq, sSet, sSetM, sRet, sRetN, sIf, sBrk, sCnt, sDrop, sFor, rSeq, sFrz, iL, iT, iZ, oNone, oSome, fSlA, fSlL, fPot, sPot, gPot, sPotN, tName, tTupG, tsCons, tsNil, sPar, sPar3, notP, sUnp, wipeE, sApp, sExt, sSetIx, List.getElem?_cons_zero, List.getElem?_cons_succ, List.set_cons_zero, List.set_cons_succ, Option.bind_some, Option.map_some, Option.bind_none, Option.map_none, List.all_cons, List.all_nil, Sl.dp, Bool.and_true, Bool.true_and, and_self, and_true, true_and, if_true, if_false, ite_true, ite_false, Bool.false_eq_true, reduceCtorEq, reduceIte, Bool.not_true, Bool.not_false, gEq_str, gEq_int, gAdd_int, le_line, Nat.reduceLeDiff, Nat.reduceEqDiff, ne_eq, not_false_eq_true, cast_2, cast_3, cast_4, cast_5, cast_1, cast_0, eq_self, decide_true, decide_false, gLen_lst]
    refine dr.wp (by omega) (by omega) fun at_ π a1 a2 => ?_
    simp (config := { failIfUnchanged := false }) (disch := first | omega | (simp only [List.length_append, List.length_cons, List.length_nil, List.length_take, List.length_drop, List.length_map, List.length_reverse, List.length_replicate, upTo_length]; omega)) only [gCatL_ok, mOf, mOfZ, mOfR, asB_b, asL_l, asT_t, asRt_rt, asRt_nx, wp_asRt, wp_asB, wp_asL, wp_asT, wp_bind, wp_map, wp_some, wp_fLc, wp_iR1, wp_iA, wp_iE, wp_iS, wp_iR2, caseA_l, caseA_t, caseL_l, caseT_t, caseB_b, caseI_i, caseS_s, entry, List.length_cons, List.length_nil, List.replicate, List.cons_append, List.nil_append, Nat.reduceAdd, Nat.reduceSub, fV, fVx, fC, fB, fBN, fU, fUN, fL, fIsi_ap, fAndV, fOrV, fNotV, fTv, fNotT, fAndT, fOrT, fIf, fIfN, fCh, fCl, fClN, aNil, aD, aN, aP, fNil, fCons, fTup, fLst, sNil, sSeq, sSet, sSetM, sRet, sRetN, sIf, sBrk, sCnt, sDrop, sFor, rSeq, sFrz, iL, iT, iZ, oNone, oSome, fSlA, fSlL, fPot, sPot, gPot, sPotN, tName, tTupG, tsCons, tsNil, sPar, sPar3, notP, sUnp, wipeE, sApp, sExt, sSetIx, List.getElem?_cons_zero, List.getElem?_cons_succ, List.set_cons_zero, List.set_cons_succ, Option.bind_some, Option.map_some, Option.bind_none, Option.map_none, List.all_cons, List.all_nil, Sl.dp, Bool.and_true, Bool.true_and, and_self, and_true, true_and, if_true, if_false, ite_true, ite_false, Bool.false_eq_true, reduceCtorEq, reduceIte, Bool.not_true, Bool.not_false, gEq_str, gEq_int, gAdd_int, le_line, Nat.reduceLeDiff, Nat.reduceEqDiff, ne_eq, not_false_eq_true, cast_2, cast_3, cast_4, cast_5, cast_1, cast_0, eq_self, decide_true, decide_false, cutD_toI, cutD_fromI]
    refine dr.wp (by omega) (by omega) fun b1 π b2 b3 => ?_
    simp (config := { failIfUnchanged := false }) (disch := first | omega | (simp only [List.length_append, List.length_cons, List.length_nil, List.length_take, List.length_drop, List.length_map, List.length_reverse, List.length_replicate, upTo_length]; omega)) only [gCatL_ok, mOf, mOfZ, mOfR, asB_b, asL_l, asT_t, asRt_rt, asRt_nx, wp_asRt, wp_asB, wp_asL, wp_asT, wp_bind, wp_map, wp_some, wp_fLc, wp_iR1, wp_iA, wp_iE, wp_iS, wp_iR2, caseA_l, caseA_t, caseL_l, caseT_t, caseB_b, caseI_i, caseS_s, entry, List.length_cons, List.length_nil, List.replicate, List.cons_append, List.nil_append, Nat.reduceAdd, Nat.reduceSub, fV, fVx, fC, fB, fBN, fU, fUN, fL, fIsi_ap, fAndV, fOrV, fNotV, fTv, fNotT, fAndT, fOrT, fIf, fIfN, fCh, fCl, fClN, aNil, aD, aN, aP, fNil, fCons, fTup, fLst, sNil, sSeq, sSet, sSetM, sRet, sRetN, sIf, sBrk, sCnt, sDrop, sFor, rSeq, sFrz, iL, iT, iZ, oNone, oSome, fSlA, fSlL, fPot, sPot, gPot, sPotN, tName, tTupG, tsCons, tsNil, sPar, sPar3, notP, sUnp, wipeE, sApp, sExt, sSetIx, List.getElem?_cons_zero, List.getElem?_cons_succ, List.set_cons_zero, List.set_cons_succ, Option.bind_some, Option.map_some, Option.bind_none, Option.map_none, List.all_cons, List.all_nil, Sl.dp, Bool.and_true, Bool.true_and, and_self, and_true, true_and, if_true, if_false, ite_true, ite_false, Bool.false_eq_true, reduceCtorEq, reduceIte, Bool.not_true, Bool.not_false, gEq_str, gEq_int, gAdd_int, le_line, Nat.reduceLeDiff, Nat.reduceEqDiff, ne_eq, not_false_eq_true, cast_2, cast_3, cast_4, cast_5, cast_1, cast_0, eq_self, decide_true, decide_false]
    refine dr.wp (by omega) (by omega) fun c1 π c2 c3 => ?_
    simp (config := { failIfUnchanged := false }) (disch := first | omega | (simp only [List.length_append, List.length_cons, List.length_nil, List.length_take, List.length_drop, List.length_map, List.length_reverse, List.length_replicate, upTo_length]; omega)) only [gCatL_ok, mOf, mOfZ, mOfR, asB_b, asL_l, asT_t, asRt_rt, asRt_nx, wp_asRt, wp_asB, wp_asL, wp_asT, wp_bind, wp_map, wp_some, wp_fLc, wp_iR1, wp_iA, wp_iE, wp_iS, wp_iR2, caseA_l, caseA_t, caseL_l, caseT_t, caseB_b, caseI_i, caseS_s, entry, List.length_cons, List.length_nil, List.replicate, List.cons_append, List.nil_append, Nat.reduceAdd, Nat.reduceSub, fV, fVx, fC, fB, fBN, fU, fUN, fL, fIsi_ap, fAndV, fOrV, fNotV, fTv, fNotT, fAndT, fOrT, fIf, fIfN, fCh, fCl, fClN, aNil, aD, aN, aP, fNil, fCons, fTup, fLst, sNil, sSeq, sSet, sSetM, sRet, sRetN, sIf, sBrk, sCnt, sDrop, sFor, rSeq, sFrz, iL, iT, iZ, oNone, oSome, fSlA, fSlL, fPot, sPot, gPot, sPotN, tName, tTupG, tsCons, tsNil, sPar, sPar3, notP, sUnp, wipeE, sApp, sExt, sSetIx, List.getElem?_cons_zero, List.getElem?_cons_succ, List.set_cons_zero, List.set_cons_succ, Option.bind_some, Option.map_some, Option.bind_none, Option.map_none, List.all_cons, List.all_nil, Sl.dp, Bool.and_true, Bool.true_and, and_self, and_true, true_and, if_true, if_false, ite_true, ite_false, Bool.false_eq_true, reduceCtorEq, reduceIte, Bool.not_true, Bool.not_false, gEq_str, gEq_int, gAdd_int, le_line, Nat.reduceLeDiff, Nat.reduceEqDiff, ne_eq, not_false_eq_true, cast_2, cast_3, cast_4, cast_5, cast_1, cast_0, eq_self, decide_true, decide_false, fRevL]
    refine ⟨okR_of (by omega) (by omega), wp_lcY (fun x => ∃ n : Int, x = .int n ∧ 0 ≤ n ∧ n ≤ S.ts.length - 1) (fun x hx π => ⟨_, rfl, ?_⟩) fun six π l6 o6 => ?_⟩
    · simp (config := { failIfUnchanged := false }) only [mOf, mOfZ, mOfR, asB_b, asL_l, asT_t, asRt_rt, asRt_nx, wp_asRt, wp_asB, wp_asL, wp_asT, wp_bind, wp_map, wp_some, wp_fLc, wp_iR1, wp_iA, wp_iE, wp_iS, wp_iR2, caseA_l, caseA_t, caseL_l, caseT_t, caseB_b, caseI_i, caseS_s, entry, List.length_cons, List.length_nil, List.replicate, List.cons_append, List.nil_append, Nat.reduceAdd, Nat.reduceSub, fV, fVx, fC, fB, fBN, fU, fUN, fL, fIsi_ap, fAndV, fOrV, fNotV, fTv, fNotT, fAndT, fOrT, fIf, fIfN, fCh, fCl, fClN, aNil, aD, aN, aP, fNil, fCons, fTup, fLst, sNil, sSeq, sSet, sSetM, sRet, sRetN, sIf, sBrk, sCnt, sDrop, sFor, rSeq, sFrz, iL, iT, iZ, oNone, oSome, fSlA, fSlL, fPot, sPot, gPot, sPotN, tName, tTupG, tsCons, tsNil, sPar, sPar3, notP, sUnp, wipeE, sApp, sExt, sSetIx, List.getElem?_cons_zero, List.getElem?_cons_succ, List.set_cons_zero, List.set_cons_succ, Option.bind_some, Option.map_some, Option.bind_none, Option.map_none, List.all_cons, List.all_nil, Sl.dp, Bool.and_true, Bool.true_and, and_self, and_true, true_and, if_true, if_false, ite_true, ite_false, Bool.false_eq_true, reduceCtorEq, reduceIte, Bool.not_true, Bool.not_false, gEq_str, gEq_int, gAdd_int, le_line, Nat.reduceLeDiff, Nat.reduceEqDiff, ne_eq, not_false_eq_true, cast_2, cast_3, cast_4, cast_5, cast_1, cast_0, eq_self, decide_true, decide_false]
      exact dr.wp (by omega) (by omega) fun y π y1 y2 => ⟨y, rfl, y1, by omega⟩
    rw [upTo_length] at l6
    have r6 : RO S 6 six := RO.of o6 (by omega)
    simp (config := { failIfUnchanged := false }) only [mOf, mOfZ, mOfR, asB_b, asL_l, asT_t, asRt_rt, asRt_nx, wp_asRt, wp_asB, wp_asL, wp_asT, wp_bind, wp_map, wp_some, wp_fLc, wp_iR1, wp_iA, wp_iE, wp_iS, wp_iR2, caseA_l, caseA_t, caseL_l, caseT_t, caseB_b, caseI_i, caseS_s, entry, List.length_cons, List.length_nil, List.replicate, List.cons_append, List.nil_append, Nat.reduceAdd, Nat.reduceSub, fV, fVx, fC, fB, fBN, fU, fUN, fL, fIsi_ap, fAndV, fOrV, fNotV, fTv, fNotT, fAndT, fOrT, fIf, fIfN, fCh, fCl, fClN, aNil, aD, aN, aP, fNil, fCons, fTup, fLst, sNil, sSeq, sSet, sSetM, sRet, sRetN, sIf, sBrk, sCnt, sDrop, sFor, rSeq, sFrz, iL, iT, iZ, oNone, oSome, fSlA, fSlL, fPot, sPot, gPot, sPotN, tName, tTupG, tsCons, tsNil, sPar, sPar3, notP, sUnp, wipeE, sApp, sExt, sSetIx, List.getElem?_cons_zero, List.getElem?_cons_succ, List.set_cons_zero, List.set_cons_succ, Option.bind_some, Option.map_some, Option.bind_none, Option.map_none, List.all_cons, List.all_nil, Sl.dp, Bool.and_true, Bool.true_and, and_self, and_true, true_and, if_true, if_false, ite_true, ite_false, Bool.false_eq_true, reduceCtorEq, reduceIte, Bool.not_true, Bool.not_false, gEq_str, gEq_int, gAdd_int, le_line, Nat.reduceLeDiff, Nat.reduceEqDiff, ne_eq, not_false_eq_true, cast_2, cast_3, cast_4, cast_5, cast_1, cast_0, eq_self, decide_true, decide_false, fRepL]
    refine dr.wp (by omega) (by omega) fun d1 π d2 d3 => ?_
    have ok12 : okR 12 = true := okR_of (by omega) (by omega)
    have le12 : (1 * (12 : Int).toNat ≤ sizeLine) = True := eq_true (by rw [sizeLine_eq]; decide)
    simp (config := { failIfUnchanged := false }) only [mOf, mOfZ, mOfR, asB_b, asL_l, asT_t, asRt_rt, asRt_nx, wp_asRt, wp_asB, wp_asL, wp_asT, wp_bind, wp_map, wp_some, wp_fLc, wp_iR1, wp_iA, wp_iE, wp_iS, wp_iR2, caseA_l, caseA_t, caseL_l, caseT_t, caseB_b, caseI_i, caseS_s, entry, List.length_cons, List.length_nil, List.replicate, List.cons_append, List.nil_append, Nat.reduceAdd, Nat.reduceSub, fV, fVx, fC, fB, fBN, fU, fUN, fL, fIsi_ap, fAndV, fOrV, fNotV, fTv, fNotT, fAndT, fOrT, fIf, fIfN, fCh, fCl, fClN, aNil, aD, aN, aP, fNil, fCons, fTup, fLst, sNil, sSeq, sSet, sSetM, sRet, sRetN, sIf, sBrk, sCnt, sDrop, sFor, rSeq, sFrz, iL, iT, iZ, oNone, oSome, fSlA, fSlL, fPot, sPot, gPot, sPotN, tName, tTupG, tsCons, tsNil, sPar, sPar3, notP, sUnp, wipeE, sApp, sExt, sSetIx, List.getElem?_cons_zero, List.getElem?_cons_succ, List.set_cons_zero, List.set_cons_succ, Option.bind_some, Option.map_some, Option.bind_none, Option.map_none, List.all_cons, List.all_nil, Sl.dp, Bool.and_true, Bool.true_and, and_self, and_true, true_and, if_true, if_false, ite_true, ite_false, Bool.false_eq_true, reduceCtorEq, reduceIte, Bool.not_true, Bool.not_false, gEq_str, gEq_int, gAdd_int, le_line, Nat.reduceLeDiff, Nat.reduceEqDiff, ne_eq, not_false_eq_true, cast_2, cast_3, cast_4, cast_5, cast_1, cast_0, eq_self, decide_true, decide_false, ok12, le12]
    have r12 : RO S 12 (List.replicate (12 : Int).toNat [PyData.int d1]).flatten := RO.rep d2 d3 _
    refine wp_for (fun _ ρ _ => ∃ s9 s8 : Sl, ρ = [.p, .d S.d, .d (.int S.ts.length), .d (.int S.p), .d (tup hs1), .d (tup hs), .d (.list R), .d (.int at_), s8, s9, .e, .e, .e]) ⟨_, _, rfl⟩ ?_ ?_
    · rintro i x hx ρ π ⟨s9, s8, rfl⟩
      have hm := List.mem_of_getElem? hx
      obtain ⟨xs, rfl, hx2⟩ : ∃ xs, x = .list xs ∧ RO S 400 xs := by
        simp only [List.mem_cons, List.not_mem_nil, or_false] at hm
        rcases hm with rfl | rfl | rfl | rfl | rfl | rfl | rfl | rfl | rfl
        · exact ⟨_, rfl, ro.mono (by omega)⟩
        · exact ⟨_, rfl, ((ro.take _).append (ro.drop _)).mono (by omega)⟩
        · exact ⟨_, rfl, (((ro.take _).append (.one b2 b3)).append (ro.drop _)).mono (by omega)⟩
        · exact ⟨_, rfl, (ro.append (.one c2 c3)).mono (by omega)⟩
        · exact ⟨_, rfl, ro.rev.mono (by omega)⟩
        · exact ⟨_, rfl, RO.nil⟩
        · exact ⟨_, rfl, (ro.append ro).mono (by omega)⟩
        · exact ⟨_, rfl, r6.mono (by omega)⟩
        · exact ⟨_, rfl, r12.mono (by omega)⟩
      refine ⟨_, rfl, ?_⟩
      simp (config := { failIfUnchanged := false }) only [mOf, mOfZ, mOfR, asB_b, asL_l, asT_t, asRt_rt, asRt_nx, wp_asRt, wp_asB, wp_asL, wp_asT, wp_bind, wp_map, wp_some, wp_fLc, wp_iR1, wp_iA, wp_iE, wp_iS, wp_iR2, caseA_l, caseA_t, caseL_l, caseT_t, caseB_b, caseI_i, caseS_s, entry, List.length_cons, List.length_nil, List.replicate, List.cons_append, List.nil_append, Nat.reduceAdd, Nat.reduceSub, fV, fVx, fC, fB, fBN, fU, fUN, fL, fIsi_ap, fAndV, fOrV, fNotV, fTv, fNotT, fAndT, fOrT, fIf, fIfN, fCh, fCl, fClN, aNil, aD, aN, aP, fNil, fCons, fTup, fLst, sNil, sSeq, sSet, sSetM, sRet, sRetN, sIf, sBrk, sCnt, sDrop, sFor, rSeq, sFrz, iL, iT, iZ, oNone, oSome, fSlA, fSlL, fPot, sPot, gPot, sPotN, tName, tTupG, tsCons, tsNil, sPar, sPar3, notP, sUnp, wipeE, sApp, sExt, sSetIx, List.getElem?_cons_zero, List.getElem?_cons_succ, List.set_cons_zero, List.set_cons_succ, Option.bind_some, Option.map_some, Option.bind_none, Option.map_none, List.all_cons, List.all_nil, Sl.dp, Bool.and_true, Bool.true_and, and_self, and_true, true_and, if_true, if_false, ite_true, ite_false, Bool.false_eq_true, reduceCtorEq, reduceIte, Bool.not_true, Bool.not_false, gEq_str, gEq_int, gAdd_int, le_line, Nat.reduceLeDiff, Nat.reduceEqDiff, ne_eq, not_false_eq_true, cast_2, cast_3, cast_4, cast_5, cast_1, cast_0, eq_self, decide_true, decide_false, RO.right g st hx2]
      exact ⟨_, _, rfl⟩
    · rintro ρ' π ⟨s9, s8, rfl⟩
      exact ⟨_, _, _, _, _, rfl⟩
  · rintro ρ' π ⟨s5, s6, s7, s8, s9, rfl⟩
    simp (config := { failIfUnchanged := false }) only [mOf, mOfZ, mOfR, asB_b, asL_l, asT_t, asRt_rt, asRt_nx, wp_asRt, wp_asB, wp_asL, wp_asT, wp_bind, wp_map, wp_some, wp_fLc, wp_iR1, wp_iA, wp_iE, wp_iS, wp_iR2, caseA_l, caseA_t, caseL_l, caseT_t, caseB_b, caseI_i, caseS_s, entry, List.length_cons, List.length_nil, List.replicate, List.cons_append, List.nil_append, Nat.reduceAdd, Nat.reduceSub, fV, fVx, fC, fB, fBN, fU, fUN, fL, fIsi_ap, fAndV, fOrV, fNotV, fTv, fNotT, fAndT, fOrT, fIf, fIfN, fCh, fCl, fClN, aNil, aD, aN, aP, fNil, fCons, fTup, fLst, sNil, sSeq, sSet, sSetM, sRet, sRetN, sIf, sBrk, sCnt, sDrop, sFor, rSeq, sFrz, iL, iT, iZ, oNone, oSome, fSlA, fSlL, fPot, sPot, gPot, sPotN, tName, tTupG, tsCons, tsNil, sPar, sPar3, notP, sUnp, wipeE, sApp, sExt, sSetIx, List.getElem?_cons_zero, List.getElem?_cons_succ, List.set_cons_zero, List.set_cons_succ, Option.bind_some, Option.map_some, Option.bind_none, Option.map_none, List.all_cons, List.all_nil, Sl.dp, Bool.and_true, Bool.true_and, and_self, and_true, true_and, if_true, if_false, ite_true, ite_false, Bool.false_eq_true, reduceCtorEq, reduceIte, Bool.not_true, Bool.not_false, gEq_str, gEq_int, gAdd_int, le_line, Nat.reduceLeDiff, Nat.reduceEqDiff, ne_eq, not_false_eq_true, cast_2, cast_3, cast_4, cast_5, cast_1, cast_0, eq_self, decide_true, decide_false, gIx_tup, atI_3]
    refine wp_run g g.f (by omega) (by omega) fun rs π hl hr hx => ?_
    obtain ⟨h, hx⟩ := hx
    have a1 : ∀ π, m__law_gone [.d S.d, .d (tup S.fs), .d (.list (rs.map PyData.int))] π = some (.tuple [flawD (S.gone S.fs 0 rs).1, hereD (S.gone S.fs 0 rs).2], π) := fun π => e_law_gone g true rs S.fs g.f hr π
    rw [hx] at a1
    have c4 : cutD [.str "sheet", .int S.p, .tuple (S.ts.map Tsk.d), tup S.fs, tup S.ls] none (some 4) = [.str "sheet", .int S.p, .tuple (S.ts.map Tsk.d), tup S.fs] := cutD_to _ 4
    have sth := gone_stand g rs S.fs 0 g.f hr h hx
    have ge : Sht.Ok ⟨S.p, S.ts, S.fs, h⟩ := ⟨g.p1, g.p2, g.t1, g.t2, g.tk, g.f, sth⟩
    have gone_same : ∀ (rs hs : List Int) (i : Int), Sht.gone ⟨S.p, S.ts, S.fs, h⟩ hs i rs = S.gone hs i rs := fun rs => by
      induction rs with
      | nil => intros; rfl
      | cons r rs ih =>
        intro hs i
        have e1 : Sht.gone ⟨S.p, S.ts, S.fs, h⟩ hs i (r :: rs) = if S.can hs r = true then (if decide (maxI (S.late hs r) ≤ 9) = true then Sht.gone ⟨S.p, S.ts, S.fs, h⟩ (S.late hs r) (i + 1) rs else (some (i, "spills"), none)) else (some (i, "not"), none) := rfl
        have e2 : S.gone hs i (r :: rs) = if S.can hs r = true then (if decide (maxI (S.late hs r) ≤ 9) = true then S.gone (S.late hs r) (i + 1) rs else (some (i, "spills"), none)) else (some (i, "not"), none) := rfl
        rw [e1, e2, ih]
    have w : ∀ π, m_is_whole_run [.d (Sht.mk S.p S.ts S.fs h).d, .d (.list (rs.map PyData.int))] π = _ := fun π => e_is_whole_run ge true hr (by omega) π
    have we : (Sht.gone ⟨S.p, S.ts, S.fs, h⟩ S.fs 0 rs).2 = some h := by rw [gone_same]; exact hx
    have we2 : decide ((Sht.gone ⟨S.p, S.ts, S.fs, h⟩ S.fs 0 rs).2 = some h) = true := decide_eq_true we
    have z : ∀ π, m__law_run_right [.d (Sht.mk S.p S.ts S.fs h).d, .d (tup S.fs), .d (.list (rs.map PyData.int))] π = some (.bool true, π) := fun π => e_run_right ge ge.f hr (by omega) π
    have add : gAdd (.tuple [.str "sheet", .int S.p, .tuple (S.ts.map Tsk.d), tup S.fs]) (.tuple [tup h]) = some (Sht.mk S.p S.ts S.fs h).d := gAdd_tup (by simp)
    have gis : gIsB false (.bool true) (.bool true) = some (.bool true) := rfl
    have ix3 : gIx (Sht.mk S.p S.ts S.fs h).d (.int 3) = some (tup S.fs) := rfl
    simp (config := { failIfUnchanged := false }) only [mOf, mOfZ, mOfR, asB_b, asL_l, asT_t, asRt_rt, asRt_nx, wp_asRt, wp_asB, wp_asL, wp_asT, wp_bind, wp_map, wp_some, wp_fLc, wp_iR1, wp_iA, wp_iE, wp_iS, wp_iR2, caseA_l, caseA_t, caseL_l, caseT_t, caseB_b, caseI_i, caseS_s, entry, List.length_cons, List.length_nil, List.replicate, List.cons_append, List.nil_append, Nat.reduceAdd, Nat.reduceSub, fV, fVx, fC, fB, fBN, fU, fUN, fL, fIsi_ap, fAndV, fOrV, fNotV, fTv, fNotT, fAndT, fOrT, fIf, fIfN, fCh, fCl, fClN, aNil, aD, aN, aP, fNil, fCons, fTup, fLst, sNil, sSeq, sSet, sSetM, sRet, sRetN, sIf, sBrk, sCnt, sDrop, sFor, rSeq, sFrz, iL, iT, iZ, oNone, oSome, fSlA, fSlL, fPot, sPot, gPot, sPotN, tName, tTupG, tsCons, tsNil, sPar, sPar3, notP, sUnp, wipeE, sApp, sExt, sSetIx, List.getElem?_cons_zero, List.getElem?_cons_succ, List.set_cons_zero, List.set_cons_succ, Option.bind_some, Option.map_some, Option.bind_none, Option.map_none, List.all_cons, List.all_nil, Sl.dp, Bool.and_true, Bool.true_and, and_self, and_true, true_and, if_true, if_false, ite_true, ite_false, Bool.false_eq_true, reduceCtorEq, reduceIte, Bool.not_true, Bool.not_false, gEq_str, gEq_int, gAdd_int, le_line, Nat.reduceLeDiff, Nat.reduceEqDiff, ne_eq, not_false_eq_true, cast_2, cast_3, cast_4, cast_5, cast_1, cast_0, eq_self, decide_true, decide_false, a1, gIx_tup, atI_1, c4, hereD_some, add, w, we2, gis, ix3, z]
    exact hq _
theorem math (ns : List Int) (hn : ns.length ≤ 63) : ∃ π', m_law [.d (.list (ns.map PyData.int))] (0, 0) = some (.bool true, π') := by
  have fin : wp (m_law [.d (.list (ns.map PyData.int))] (0, 0)) fun d _ => d = .bool true := by
    unfold m_law g_law
    simp (config := { failIfUnchanged := false }) only [mOf, mOfZ, mOfR, asB_b, asL_l, asT_t, asRt_rt, asRt_nx, wp_asRt, wp_asB, wp_asL, wp_asT, wp_bind, wp_map, wp_some, wp_fLc, wp_iR1, wp_iA, wp_iE, wp_iS, wp_iR2, caseA_l, caseA_t, caseL_l, caseT_t, caseB_b, caseI_i, caseS_s, entry, List.length_cons, List.length_nil, List.replicate, List.cons_append, List.nil_append, Nat.reduceAdd, Nat.reduceSub, fV, fVx, fC, fB, fBN, fU, fUN, fL, fIsi_ap, fAndV, fOrV, fNotV, fTv, fNotT, fAndT, fOrT, fIf, fIfN, fCh, fCl, fClN, aNil, aD, aN, aP, fNil, fCons, fTup, fLst, sNil, sSeq, sSet, sSetM, sRet, sRetN, sIf, sBrk, sCnt, sDrop, sFor, rSeq, sFrz, iL, iT, iZ, oNone, oSome, fSlA, fSlL, fPot, sPot, gPot, sPotN, tName, tTupG, tsCons, tsNil, sPar, sPar3, notP, sUnp, wipeE, sApp, sExt, sSetIx, List.getElem?_cons_zero, List.getElem?_cons_succ, List.set_cons_zero, List.set_cons_succ, Option.bind_some, Option.map_some, Option.bind_none, Option.map_none, List.all_cons, List.all_nil, Sl.dp, Bool.and_true, Bool.true_and, and_self, and_true, true_and, if_true, if_false, ite_true, ite_false, Bool.false_eq_true, reduceCtorEq, reduceIte, Bool.not_true, Bool.not_false, gEq_str, gEq_int, gAdd_int, le_line, Nat.reduceLeDiff, Nat.reduceEqDiff, ne_eq, not_false_eq_true, cast_2, cast_3, cast_4, cast_5, cast_1, cast_0, eq_self, decide_true, decide_false, noP, okR_of (j := 3) (by omega) (by omega)]
    refine wp_for (fun _ ρ _ => ∃ s1 : Sl, noP s1 = true ∧ ρ = [.d (.list (ns.map PyData.int)), s1, .e, .e, .e]) ⟨_, rfl, rfl⟩ ?_ ?_
    · rintro j x hx ρ π ⟨s1, h1, rfl⟩
      obtain ⟨rfl, hj⟩ := upTo_get hx
      refine ⟨_, rfl, ?_⟩
      simp (config := { failIfUnchanged := false }) only [mOf, mOfZ, mOfR, asB_b, asL_l, asT_t, asRt_rt, asRt_nx, wp_asRt, wp_asB, wp_asL, wp_asT, wp_bind, wp_map, wp_some, wp_fLc, wp_iR1, wp_iA, wp_iE, wp_iS, wp_iR2, caseA_l, caseA_t, caseL_l, caseT_t, caseB_b, caseI_i, caseS_s, entry, List.length_cons, List.length_nil, List.replicate, List.cons_append, List.nil_append, Nat.reduceAdd, Nat.reduceSub, fV, fVx, fC, fB, fBN, fU, fUN, fL, fIsi_ap, fAndV, fOrV, fNotV, fTv, fNotT, fAndT, fOrT, fIf, fIfN, fCh, fCl, fClN, aNil, aD, aN, aP, fNil, fCons, fTup, fLst, sNil, sSeq, sSet, sSetM, sRet, sRetN, sIf, sBrk, sCnt, sDrop, sFor, rSeq, sFrz, iL, iT, iZ, oNone, oSome, fSlA, fSlL, fPot, sPot, gPot, sPotN, tName, tTupG, tsCons, tsNil, sPar, sPar3, notP, sUnp, wipeE, sApp, sExt, sSetIx, List.getElem?_cons_zero, List.getElem?_cons_succ, List.set_cons_zero, List.set_cons_succ, Option.bind_some, Option.map_some, Option.bind_none, Option.map_none, List.all_cons, List.all_nil, Sl.dp, Bool.and_true, Bool.true_and, and_self, and_true, true_and, if_true, if_false, ite_true, ite_false, Bool.false_eq_true, reduceCtorEq, reduceIte, Bool.not_true, Bool.not_false, gEq_str, gEq_int, gAdd_int, le_line, Nat.reduceLeDiff, Nat.reduceEqDiff, ne_eq, not_false_eq_true, cast_2, cast_3, cast_4, cast_5, cast_1, cast_0, eq_self, decide_true, decide_false, fClQ, Sl.isD]
      refine pots ns (0 + (j : Int)) π _ (by omega) (by omega) (by omega) fun a b => ?_
      simp (config := { failIfUnchanged := false }) only [mOf, mOfZ, mOfR, asB_b, asL_l, asT_t, asRt_rt, asRt_nx, wp_asRt, wp_asB, wp_asL, wp_asT, wp_bind, wp_map, wp_some, wp_fLc, wp_iR1, wp_iA, wp_iE, wp_iS, wp_iR2, caseA_l, caseA_t, caseL_l, caseT_t, caseB_b, caseI_i, caseS_s, entry, List.length_cons, List.length_nil, List.replicate, List.cons_append, List.nil_append, Nat.reduceAdd, Nat.reduceSub, fV, fVx, fC, fB, fBN, fU, fUN, fL, fIsi_ap, fAndV, fOrV, fNotV, fTv, fNotT, fAndT, fOrT, fIf, fIfN, fCh, fCl, fClN, aNil, aD, aN, aP, fNil, fCons, fTup, fLst, sNil, sSeq, sSet, sSetM, sRet, sRetN, sIf, sBrk, sCnt, sDrop, sFor, rSeq, sFrz, iL, iT, iZ, oNone, oSome, fSlA, fSlL, fPot, sPot, gPot, sPotN, tName, tTupG, tsCons, tsNil, sPar, sPar3, notP, sUnp, wipeE, sApp, sExt, sSetIx, List.getElem?_cons_zero, List.getElem?_cons_succ, List.set_cons_zero, List.set_cons_succ, Option.bind_some, Option.map_some, Option.bind_none, Option.map_none, List.all_cons, List.all_nil, Sl.dp, Bool.and_true, Bool.true_and, and_self, and_true, true_and, if_true, if_false, ite_true, ite_false, Bool.false_eq_true, reduceCtorEq, reduceIte, Bool.not_true, Bool.not_false, gEq_str, gEq_int, gAdd_int, le_line, Nat.reduceLeDiff, Nat.reduceEqDiff, ne_eq, not_false_eq_true, cast_2, cast_3, cast_4, cast_5, cast_1, cast_0, eq_self, decide_true, decide_false]
      refine wp_law_right fun π' => ?_
      simp (config := { failIfUnchanged := false }) only [mOf, mOfZ, mOfR, asB_b, asL_l, asT_t, asRt_rt, asRt_nx, wp_asRt, wp_asB, wp_asL, wp_asT, wp_bind, wp_map, wp_some, wp_fLc, wp_iR1, wp_iA, wp_iE, wp_iS, wp_iR2, caseA_l, caseA_t, caseL_l, caseT_t, caseB_b, caseI_i, caseS_s, entry, List.length_cons, List.length_nil, List.replicate, List.cons_append, List.nil_append, Nat.reduceAdd, Nat.reduceSub, fV, fVx, fC, fB, fBN, fU, fUN, fL, fIsi_ap, fAndV, fOrV, fNotV, fTv, fNotT, fAndT, fOrT, fIf, fIfN, fCh, fCl, fClN, aNil, aD, aN, aP, fNil, fCons, fTup, fLst, sNil, sSeq, sSet, sSetM, sRet, sRetN, sIf, sBrk, sCnt, sDrop, sFor, rSeq, sFrz, iL, iT, iZ, oNone, oSome, fSlA, fSlL, fPot, sPot, gPot, sPotN, tName, tTupG, tsCons, tsNil, sPar, sPar3, notP, sUnp, wipeE, sApp, sExt, sSetIx, List.getElem?_cons_zero, List.getElem?_cons_succ, List.set_cons_zero, List.set_cons_succ, Option.bind_some, Option.map_some, Option.bind_none, Option.map_none, List.all_cons, List.all_nil, Sl.dp, Bool.and_true, Bool.true_and, and_self, and_true, true_and, if_true, if_false, ite_true, ite_false, Bool.false_eq_true, reduceCtorEq, reduceIte, Bool.not_true, Bool.not_false, gEq_str, gEq_int, gAdd_int, le_line, Nat.reduceLeDiff, Nat.reduceEqDiff, ne_eq, not_false_eq_true, cast_2, cast_3, cast_4, cast_5, cast_1, cast_0, eq_self, decide_true, decide_false]
      exact ⟨_, rfl, rfl⟩
    · rintro ρ' π ⟨s1, h1, rfl⟩
      simp (config := { failIfUnchanged := false }) only [mOf, mOfZ, mOfR, asB_b, asL_l, asT_t, asRt_rt, asRt_nx, wp_asRt, wp_asB, wp_asL, wp_asT, wp_bind, wp_map, wp_some, wp_fLc, wp_iR1, wp_iA, wp_iE, wp_iS, wp_iR2, caseA_l, caseA_t, caseL_l, caseT_t, caseB_b, caseI_i, caseS_s, entry, List.length_cons, List.length_nil, List.replicate, List.cons_append, List.nil_append, Nat.reduceAdd, Nat.reduceSub, fV, fVx, fC, fB, fBN, fU, fUN, fL, fIsi_ap, fAndV, fOrV, fNotV, fTv, fNotT, fAndT, fOrT, fIf, fIfN, fCh, fCl, fClN, aNil, aD, aN, aP, fNil, fCons, fTup, fLst, sNil, sSeq, sSet, sSetM, sRet, sRetN, sIf, sBrk, sCnt, sDrop, sFor, rSeq, sFrz, iL, iT, iZ, oNone, oSome, fSlA, fSlL, fPot, sPot, gPot, sPotN, tName, tTupG, tsCons, tsNil, sPar, sPar3, notP, sUnp, wipeE, sApp, sExt, sSetIx, List.getElem?_cons_zero, List.getElem?_cons_succ, List.set_cons_zero, List.set_cons_succ, Option.bind_some, Option.map_some, Option.bind_none, Option.map_none, List.all_cons, List.all_nil, Sl.dp, Bool.and_true, Bool.true_and, and_self, and_true, true_and, if_true, if_false, ite_true, ite_false, Bool.false_eq_true, reduceCtorEq, reduceIte, Bool.not_true, Bool.not_false, gEq_str, gEq_int, gAdd_int, le_line, Nat.reduceLeDiff, Nat.reduceEqDiff, ne_eq, not_false_eq_true, cast_2, cast_3, cast_4, cast_5, cast_1, cast_0, eq_self, decide_true, decide_false, sSetP]
      refine pots ns 3 π _ (by omega) (by omega) (by omega) fun a b => ?_
      have np : noPot [.d (.list (ns.map PyData.int)), s1, .e, .e, .e] 2 = true := noPot_of fun j s e => by
        rcases j with _ | _ | _ | _ | _ | j <;> first | (left; rfl) | (right; cases e; first | rfl | exact h1) | cases e
      have lt : (2 < 5) = True := eq_true (by decide)
      simp (config := { failIfUnchanged := false }) only [mOf, mOfZ, mOfR, asB_b, asL_l, asT_t, asRt_rt, asRt_nx, wp_asRt, wp_asB, wp_asL, wp_asT, wp_bind, wp_map, wp_some, wp_fLc, wp_iR1, wp_iA, wp_iE, wp_iS, wp_iR2, caseA_l, caseA_t, caseL_l, caseT_t, caseB_b, caseI_i, caseS_s, entry, List.length_cons, List.length_nil, List.replicate, List.cons_append, List.nil_append, Nat.reduceAdd, Nat.reduceSub, fV, fVx, fC, fB, fBN, fU, fUN, fL, fIsi_ap, fAndV, fOrV, fNotV, fTv, fNotT, fAndT, fOrT, fIf, fIfN, fCh, fCl, fClN, aNil, aD, aN, aP, fNil, fCons, fTup, fLst, sNil, sSeq, sSet, sSetM, sRet, sRetN, sIf, sBrk, sCnt, sDrop, sFor, rSeq, sFrz, iL, iT, iZ, oNone, oSome, fSlA, fSlL, fPot, sPot, gPot, sPotN, tName, tTupG, tsCons, tsNil, sPar, sPar3, notP, sUnp, wipeE, sApp, sExt, sSetIx, List.getElem?_cons_zero, List.getElem?_cons_succ, List.set_cons_zero, List.set_cons_succ, Option.bind_some, Option.map_some, Option.bind_none, Option.map_none, List.all_cons, List.all_nil, Sl.dp, Bool.and_true, Bool.true_and, and_self, and_true, true_and, if_true, if_false, ite_true, ite_false, Bool.false_eq_true, reduceCtorEq, reduceIte, Bool.not_true, Bool.not_false, gEq_str, gEq_int, gAdd_int, le_line, Nat.reduceLeDiff, Nat.reduceEqDiff, ne_eq, not_false_eq_true, cast_2, cast_3, cast_4, cast_5, cast_1, cast_0, eq_self, decide_true, decide_false, np, lt]
      refine pk.lst (by simp) (by simp) fun x π m1 => ?_
      obtain ⟨k3, rfl, p5, p6⟩ : ∃ k : Int, x = .int k ∧ 1 ≤ k ∧ k ≤ 400 := by
        simp only [List.mem_cons, List.not_mem_nil, or_false] at m1
        rcases m1 with rfl | rfl | rfl <;> exact ⟨_, rfl, by omega, by omega⟩
      let T : Sht := ⟨2, [⟨"go", [0], [1]⟩, ⟨"", [1], [0]⟩], [1, 0], [0, 1]⟩
      have gT : T.Ok := ⟨by decide, by decide, by decide, by decide, fun t ht => by
        simp only [T, List.mem_cons, List.not_mem_nil, or_false] at ht
        rcases ht with rfl | rfl <;> exact ⟨by decide +kernel, by decide, by decide, by decide, by decide, by decide⟩, ⟨by decide, by decide⟩, ⟨by decide, by decide⟩⟩
      have ok200 : okR 200 = true := okR_of (by omega) (by omega)
      have le200 : (2 * (200 : Int).toNat ≤ sizeLine) = True := eq_true (by rw [sizeLine_eq]; decide)
      have rep : (List.replicate (200 : Int).toNat [PyData.int 0, PyData.int 1]).flatten = ((List.replicate 200 [(0 : Int), 1]).flatten).map PyData.int := by rfl
      have cut : cutD ((List.replicate (200 : Int).toNat [PyData.int 0, PyData.int 1]).flatten) none (some k3) = (((List.replicate 200 [(0 : Int), 1]).flatten).take k3.toNat).map PyData.int := by
        rw [rep, cutD_toI _ (by omega), List.map_take]
      have z : ∀ π, m__law_run_right [.d T.d, .d (tup [1, 0]), .d (.list ((((List.replicate 200 [(0 : Int), 1]).flatten).take k3.toNat).map PyData.int))] π = some (.bool true, π) := fun π => e_run_right gT gT.f (fun r hr => by
        have h2 := List.mem_of_mem_take hr
        obtain ⟨l, hl, hx⟩ := List.mem_flatten.mp h2
        rw [(List.mem_replicate.mp hl).2] at hx
        simp only [List.mem_cons, List.not_mem_nil, or_false] at hx
        show 0 ≤ r ∧ r < 2
        rcases hx with rfl | rfl <;> omega) (by rw [List.length_take]; omega) π
      have z2 : ∀ π, m__law_run_right [.d (.tuple [.str "sheet", .int 2, .tuple [.tuple [.str "go", .tuple [.int 0], .tuple [.int 1]], .tuple [.str "", .tuple [.int 1], .tuple [.int 0]]], .tuple [.int 1, .int 0], .tuple [.int 0, .int 1]]), .d (.tuple [.int 1, .int 0]), .d (.list ((((List.replicate 200 [(0 : Int), 1]).flatten).take k3.toNat).map PyData.int))] π = some (.bool true, π) := z
      generalize ((((List.replicate 200 [(0 : Int), 1]).flatten).take k3.toNat).map PyData.int) = L at cut z2
      simp (config := { failIfUnchanged := false }) only [mOf, mOfZ, mOfR, asB_b, asL_l, asT_t, asRt_rt, asRt_nx, wp_asRt, wp_asB, wp_asL, wp_asT, wp_bind, wp_map, wp_some, wp_fLc, wp_iR1, wp_iA, wp_iE, wp_iS, wp_iR2, caseA_l, caseA_t, caseL_l, caseT_t, caseB_b, caseI_i, caseS_s, entry, List.length_cons, List.length_nil, List.replicate, List.cons_append, List.nil_append, Nat.reduceAdd, Nat.reduceSub, fV, fVx, fC, fB, fBN, fU, fUN, fL, fIsi_ap, fAndV, fOrV, fNotV, fTv, fNotT, fAndT, fOrT, fIf, fIfN, fCh, fCl, fClN, aNil, aD, aN, aP, fNil, fCons, fTup, fLst, sNil, sSeq, sSet, sSetM, sRet, sRetN, sIf, sBrk, sCnt, sDrop, sFor, rSeq, sFrz, iL, iT, iZ, oNone, oSome, fSlA, fSlL, fPot, sPot, gPot, sPotN, tName, tTupG, tsCons, tsNil, sPar, sPar3, notP, sUnp, wipeE, sApp, sExt, sSetIx, List.getElem?_cons_zero, List.getElem?_cons_succ, List.set_cons_zero, List.set_cons_succ, Option.bind_some, Option.map_some, Option.bind_none, Option.map_none, List.all_cons, List.all_nil, Sl.dp, Bool.and_true, Bool.true_and, and_self, and_true, true_and, if_true, if_false, ite_true, ite_false, Bool.false_eq_true, reduceCtorEq, reduceIte, Bool.not_true, Bool.not_false, gEq_str, gEq_int, gAdd_int, le_line, Nat.reduceLeDiff, Nat.reduceEqDiff, ne_eq, not_false_eq_true, cast_2, cast_3, cast_4, cast_5, cast_1, cast_0, eq_self, decide_true, decide_false, fRepL, ok200, le200, cut, z2]
  obtain ⟨d, π', e, rfl⟩ := fin
  exact ⟨π', e⟩
end Law11

set_option maxHeartbeats 0
namespace Law11
open PySem PySem.Spec PyProof.Rows L2 DL
set_option autoImplicit false
def ob (s : PySem.W.SharedT) : AlS := obsSG 56 fa fn tb (HandSHeadRun.getT s)
theorem ob_eq (s : PySem.W.SharedT) : ob s = (hookS 56 fa fn tb).obs s.abs := obsSG_eq (HandSHeadRun.getT_eq s)
abbrev loose : List Str := (["__name__", "is_integer", "is_within", "is_list", "is_tuple", "are_rising", "WorkError", "InvalidSheet", "InvalidStanding", "InvalidTask", "InvalidRun", "MOST_PLACES", "MOST_TASKS", "MOST_TOKENS", "MOST_SIGNS", "MOST_RUN", "LETTERS", "SIGNS", "is_name", "are_places", "is_standing_of", "is_task_of", "is_sheet", "want_sheet", "want_standing", "want_task", "are_tasks", "want_run", "can_do", "behind_task"] : List Str) ++ (["led", "row_along", "NOT", "SPILLS", "first_wrong", "can_be_done", "behind", "run_flaw", "standing_behind", "row_of", "is_whole_run", "_law_pot", "_law_draw", "_law_pick", "_law_lot", "_law_sheet", "_law_behind", "_law_gone", "_law_steps_right", "_law_run_right", "_law_run", "_law_right"] : List Str)
theorem run (w : World) : HandSHeadRun.RunEq (PySem.W.OpenLaw.row PySem.Challenge.rw_caseworks_k11_whole_runs_and_rows) (PySem.W.view (PySem.W.OpenLaw.row PySem.Challenge.rw_caseworks_k11_whole_runs_and_rows).prog [56]) (hookS 56 fa fn tb) ob 4000 loose w := by
  intro os
  kernel_rfl
end Law11
open PySem PySem.W PySem.Calls PyProof.Rows
theorem PySem.Challenge.cw_caseworks_k11_whole_runs_and_rows_holds : PySem.Challenge.rw_caseworks_k11_whole_runs_and_rows.Holds := by
  w_on; o_law
  refine HandSHeadRun.head_any (r := OpenLaw.row PySem.Challenge.rw_caseworks_k11_whole_runs_and_rows) (q := view (OpenLaw.row PySem.Challenge.rw_caseworks_k11_whole_runs_and_rows).prog [56]) (H := DL.hookS 56 Law11.fa Law11.fn Law11.tb) (ob := Law11.ob) (M := 4000) (loose := Law11.loose) (d := HandSHeadRun.topDef (OpenLaw.row PySem.Challenge.rw_caseworks_k11_whole_runs_and_rows).prog 56) (kwd := []) Law11.ob_eq
    (by kernel_rfl) (fun s => by kernel_rfl) Law11.run (by kernel_rfl) (by kernel_rfl) (by kernel_rfl) (by rfl) (by first | assumption | decide +kernel) (by decide +kernel) ⟨rfl, rfl, rfl, rfl, rfl, by decide +kernel⟩ ?hw ?hc
  case hw => w_witness2
  case hc =>
    refine DL.walk_ofS (l := PySem.Challenge.rw_caseworks_k11_whole_runs_and_rows) (n := 63) (k := 10) (x := "script") rfl (by decide) (by kernel_rfl) ⟨rfl, by decide, by decide⟩ ?F
    intro w mg fA h K KX c ct G hmg0
    have hmg : mg ("law" : PySem.Str) = some (.ref fA) := by
      have e : (HandSHeadRun.topDef (OpenLaw.row PySem.Challenge.rw_caseworks_k11_whole_runs_and_rows).prog 56).name = ("law" : PySem.Str) := by kernel_rfl
      rw [← e]
      exact hmg0
    have GG := Law11.Gs.of KX G c ct
    have e := hmg.symm.trans GG.g_law
    cases e
    obtain ⟨fd, F⟩ := GG.d_law
    have b := L2.FunD.bindsA (ps := ["script"]) F fun _ _ _ _ _ _ us hl => match us, hl with | [_], _ => rfl
    exact ⟨fd, Law11.m_law, fun s u => b s [u] rfl, Law11.math, fun base _ _ => Law11.ok_law GG F⟩

