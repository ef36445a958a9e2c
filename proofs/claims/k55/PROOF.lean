import PyProof.Rows.All
import Wide.All
import OpenK.AllK
import Wide.FinOn
import HandS.ForMost
import HandS.Nested
import HandS.TupAny
import HandS.Star
import HandS.Strs
import HandS.Deep
import HandS.Zip
import HandS.Walk
import HandS.Style
import HandS.IsInst
import HandS.TupMul
import HandS.SetFor
import KE.GoesMore
import KE.GoesEnum
import HandS.Iter
import HandS.Lambda
import HandS.EndBits
import HandS.EndTab
import HandS.Defaults
import HandS.Conv
import HandS.Head0
import HandS.Head1
import HandS.Head2
import HandS.HeadHook1
import HandS.HeadHook2
import HandS.HeadHook3
import HandS.HeadHook4
import HandS.HeadEnd
import PyProof.FitsInt
import PySem.Challenge.RW_frontshelf_k55_whole_step_rule
import KE.KStateDown
import HandS.Base
import HandS.Call
import HandS.Ends
import HandS.More
import HandS.Words
import HandS.WordsExc
set_option Elab.async false
set_option linter.all false
set_option maxRecDepth 100000
namespace DL
open PySem PySem.Spec PyProof.Rows L2 NdefX LamX

/-! ### data as trees -/
inductive D where
  | non | bl (b : Bool) | int (i : Int) | str (x : Str)
  | tup (ds : List D) | lst (ds : List D)
  | dik (ks : List Key) (ds : List D)
  | dit (ks : List (List Key)) (ds : List D)
  | fn (a : Addr)
  | par (x y : D)
  | well
  | scr (ns : List Int)

/-- a slot of the running def: data that nobody changes, or a list (dict) that this def alone holds and changes -/
inductive Slot where
  | dat (d : D)
  | own (d : D)
abbrev Ev := List (Option Slot)

structure DC where
  K : PySem.W.Frag
  T : List NTab
  aw : Option Addr
/-- the addresses whose objects may change at any call: the well, the tables of code objects -/
def DC.Spc (C : DC) (a : Addr) : Prop := C.aw = some a ∨ ∃ p ∈ C.T, p.1 = a

def WellAt (H : Hp) (a : Addr) : Prop := ∃ i j k : Int, H a = some (.lst [.int i, .int j, .int k]) ∧ 0 ≤ i ∧ 0 ≤ j ∧ j < 2147483489 ∧ 0 ≤ k
structure GI (C : DC) (H : Hp) : Prop where
  tabs : TabsN C.T H
  well : ∀ a, C.aw = some a → WellAt H a
def Ext (C : DC) (H H' : Hp) : Prop := ∀ a o, H a = some o → ¬ C.Spc a → H' a = some o
theorem Ext.refl {C : DC} {H : Hp} : Ext C H H := fun _ _ h _ => h
theorem Ext.trans {C : DC} {H H1 H2 : Hp} (a : Ext C H H1) (b : Ext C H1 H2) : Ext C H H2 := fun x o h n => b x o (a x o h n) n
theorem GI.spc {C : DC} {H : Hp} (g : GI C H) {a : Addr} (h : C.Spc a) : (∃ xs, H a = some (.lst xs)) ∨ ∃ ps, H a = some (.tbl ps) := by
  rcases h with h | ⟨p, hp, rfl⟩
  · obtain ⟨i, j, k, e, _⟩ := g.well a h
    exact .inl ⟨_, e⟩
  · obtain ⟨ps, e, _⟩ := g.tabs p hp
    exact .inr ⟨ps, e⟩
theorem GI.some {C : DC} {H : Hp} (g : GI C H) {a : Addr} (h : C.Spc a) : H a ≠ none := by
  rcases g.spc h with ⟨_, e⟩ | ⟨_, e⟩ <;> rw [e] <;> intro z <;> cases z
theorem GI.notSpc {C : DC} {H : Hp} (g : GI C H) {a : Addr} {o : HO} (h : H a = Option.some o) (h1 : ∀ xs, o ≠ .lst xs) (h2 : ∀ ps, o ≠ .tbl ps) : ¬ C.Spc a := fun z => by
  rcases g.spc z with ⟨xs, e⟩ | ⟨ps, e⟩
  · rw [h] at e; cases e; exact h1 xs rfl
  · rw [h] at e; cases e; exact h2 ps rfl

/-- a tuple whose object is known to have no dict -/
def TupR (K : PySem.W.Frag) (H : Hp) (a : Addr) (xs : List V) : Prop :=
  (∃ o, H a = some (.frz o (.tup xs)) ∧ o.dict = none) ∨
    ∃ (o : Obj) (its : Array Value) (n : Nat), K.lookup a = some o ∧ o.cls = .type "tuple" ∧ o.dict = none ∧ o.data = .seq its n ∧ its.size ≤ sizeLine ∧ Vals xs its.toList
theorem TupR.sq {K : PySem.W.Frag} {H : Hp} {a : Addr} {xs : List V} (h : TupR K H a xs) : SqT K H a xs := by
  rcases h with ⟨o, h, _⟩ | ⟨o, its, n, h1, h2, _, h3⟩
  · exact .inl (.inr ⟨o, h⟩)
  · exact .inr ⟨o, its, n, h1, h2, h3⟩
/-- the law's script: a list that nobody changes -/
def ScrR (K : PySem.W.Frag) (H : Hp) (a : Addr) (xs : List V) : Prop := (∃ o, H a = some (.frz o (.lst xs))) ∨ ∀ H', SqL K H' a xs
theorem ScrR.sq {K : PySem.W.Frag} {H : Hp} {a : Addr} {xs : List V} (h : ScrR K H a xs) : SqL K H a xs := h.elim (fun ⟨o, h⟩ => .inl (.inr ⟨o, h⟩)) fun h => h H
mutual
/-- the value v stands for the data d in the heap H; lists and dicts lie outside O -/
def Rp (C : DC) (O : Addr → Prop) (H : Hp) : D → V → Prop
  | .non, v => v = .non
  | .bl b, v => v = .bl b
  | .int i, v => v = .int i
  | .str x, v => v = .str x
  | .tup ds, v => ∃ a xs, v = .ref a ∧ TupR C.K H a xs ∧ RpL C O H ds xs
  | .lst ds, v => ∃ a xs, v = .ref a ∧ ¬ O a ∧ ¬ C.Spc a ∧ H a = some (.lst xs) ∧ RpL C O H ds xs
  | .dik ks ds, v => ∃ a xs, v = .ref a ∧ ¬ O a ∧ ¬ C.Spc a ∧ H a = some (.dK (ks.zip xs)) ∧ xs.length = ks.length ∧ RpL C O H ds xs
  | .dit ks ds, v => ∃ a xs, v = .ref a ∧ ¬ O a ∧ ¬ C.Spc a ∧ H a = some (.dT (ks.zip xs)) ∧ xs.length = ks.length ∧ RpL C O H ds xs
  | .fn a, v => v = .ref a
  | .par x y, v => ∃ a x' y', v = .ref a ∧ SqT C.K H a [x', y'] ∧ Rp C O H x x' ∧ Rp C O H y y'
  | .well, v => ∃ a, C.aw = some a ∧ v = .ref a
  | .scr ns, v => ∃ a, v = .ref a ∧ ScrR C.K H a (ns.map V.int)
def RpL (C : DC) (O : Addr → Prop) (H : Hp) : List D → List V → Prop
  | [], xs => xs = []
  | d :: ds, xs => ∃ v vs, xs = v :: vs ∧ Rp C O H d v ∧ RpL C O H ds vs
end
/-- the root may lie in O -/
def RpT (C : DC) (O : Addr → Prop) (H : Hp) (d : D) (v : V) : Prop := match d with
  | .lst ds => ∃ a xs, v = .ref a ∧ ¬ C.Spc a ∧ H a = some (.lst xs) ∧ RpL C O H ds xs
  | .dik ks ds => ∃ a xs, v = .ref a ∧ ¬ C.Spc a ∧ H a = some (.dK (ks.zip xs)) ∧ xs.length = ks.length ∧ RpL C O H ds xs
  | .dit ks ds => ∃ a xs, v = .ref a ∧ ¬ C.Spc a ∧ H a = some (.dT (ks.zip xs)) ∧ xs.length = ks.length ∧ RpL C O H ds xs
  | d => Rp C O H d v
def RpF (cl : Bool) (C : DC) (O : Addr → Prop) (H : Hp) (d : D) (v : V) : Prop := match cl with
  | true => Rp C O H d v
  | false => RpT C O H d v
theorem Rp.top {C : DC} {O : Addr → Prop} {H : Hp} {d : D} {v : V} (h : Rp C O H d v) : RpT C O H d v := by
  cases d <;> first
    | exact h
    | (unfold Rp at h; obtain ⟨a, xs, e, _, r⟩ := h; exact ⟨a, xs, e, r⟩)
theorem Rp.flag {cl : Bool} {C : DC} {O : Addr → Prop} {H : Hp} {d : D} {v : V} (h : Rp C O H d v) : RpF cl C O H d v := by
  cases cl
  · exact h.top
  · exact h
theorem RpF.top {cl : Bool} {C : DC} {O : Addr → Prop} {H : Hp} {d : D} {v : V} (h : RpF cl C O H d v) : RpT C O H d v := by
  cases cl
  · exact h
  · exact Rp.top h

mutual
theorem Rp.mono {C : DC} {O O' : Addr → Prop} {H : Hp} (ho : ∀ a, O' a → O a) : ∀ {d : D} {v : V}, Rp C O H d v → Rp C O' H d v
  | .non, _, h => by unfold Rp at h ⊢; exact h
  | .bl _, _, h => by unfold Rp at h ⊢; exact h
  | .int _, _, h => by unfold Rp at h ⊢; exact h
  | .str _, _, h => by unfold Rp at h ⊢; exact h
  | .tup _, _, h => by unfold Rp at h ⊢; obtain ⟨a, xs, e, s, r⟩ := h; exact ⟨a, xs, e, s, RpL.mono ho r⟩
  | .lst _, _, h => by unfold Rp at h ⊢; obtain ⟨a, xs, e, n, s, q, r⟩ := h; exact ⟨a, xs, e, fun z => n (ho _ z), s, q, RpL.mono ho r⟩
  | .dik _ _, _, h => by unfold Rp at h ⊢; obtain ⟨a, xs, e, n, s, q, l, r⟩ := h; exact ⟨a, xs, e, fun z => n (ho _ z), s, q, l, RpL.mono ho r⟩
  | .dit _ _, _, h => by unfold Rp at h ⊢; obtain ⟨a, xs, e, n, s, q, l, r⟩ := h; exact ⟨a, xs, e, fun z => n (ho _ z), s, q, l, RpL.mono ho r⟩
  | .fn _, _, h => by unfold Rp at h ⊢; exact h
  | .par _ _, _, h => by unfold Rp at h ⊢; obtain ⟨a, x, y, e, s, r, t⟩ := h; exact ⟨a, x, y, e, s, Rp.mono ho r, Rp.mono ho t⟩
  | .well, _, h => by unfold Rp at h ⊢; exact h
  | .scr _, _, h => by unfold Rp at h ⊢; exact h
theorem RpL.mono {C : DC} {O O' : Addr → Prop} {H : Hp} (ho : ∀ a, O' a → O a) : ∀ {ds : List D} {vs : List V}, RpL C O H ds vs → RpL C O' H ds vs
  | [], _, h => by unfold RpL at h ⊢; exact h
  | _ :: _, _, h => by unfold RpL at h ⊢; obtain ⟨v, vs, e, r, t⟩ := h; exact ⟨v, vs, e, Rp.mono ho r, RpL.mono ho t⟩
end
theorem sqT_ext {C : DC} {H H' : Hp} (g : GI C H) (e : Ext C H H') {a : Addr} {xs : List V} (h : SqT C.K H a xs) : SqT C.K H' a xs := by
  rcases h with (h | ⟨o, h⟩) | h
  · exact .inl (.inl (e _ _ h (g.notSpc h (fun _ z => by cases z) fun _ z => by cases z)))
  · exact .inl (.inr ⟨o, e _ _ h (g.notSpc h (fun _ z => by cases z) fun _ z => by cases z)⟩)
  · exact .inr h
theorem tupR_ext {C : DC} {H H' : Hp} (g : GI C H) (e : Ext C H H') {a : Addr} {xs : List V} (h : TupR C.K H a xs) : TupR C.K H' a xs := by
  rcases h with ⟨o, h, d⟩ | h
  · exact .inl ⟨o, e _ _ h (g.notSpc h (fun _ z => by cases z) fun _ z => by cases z), d⟩
  · exact .inr h
theorem scrR_ext {C : DC} {H H' : Hp} (g : GI C H) (e : Ext C H H') {a : Addr} {xs : List V} (h : ScrR C.K H a xs) : ScrR C.K H' a xs := h.elim (fun ⟨o, h⟩ => .inl ⟨o, e _ _ h (g.notSpc h (fun _ z => by cases z) fun _ z => by cases z)⟩) .inr
mutual
theorem Rp.ext {C : DC} {O : Addr → Prop} {H H' : Hp} (g : GI C H) (he : Ext C H H') : ∀ {d : D} {v : V}, Rp C O H d v → Rp C O H' d v
  | .non, _, h => by unfold Rp at h ⊢; exact h
  | .bl _, _, h => by unfold Rp at h ⊢; exact h
  | .int _, _, h => by unfold Rp at h ⊢; exact h
  | .str _, _, h => by unfold Rp at h ⊢; exact h
  | .tup _, _, h => by unfold Rp at h ⊢; obtain ⟨a, xs, e, s, r⟩ := h; exact ⟨a, xs, e, tupR_ext g he s, RpL.ext g he r⟩
  | .lst _, _, h => by unfold Rp at h ⊢; obtain ⟨a, xs, e, n, s, q, r⟩ := h; exact ⟨a, xs, e, n, s, he _ _ q s, RpL.ext g he r⟩
  | .dik _ _, _, h => by unfold Rp at h ⊢; obtain ⟨a, xs, e, n, s, q, l, r⟩ := h; exact ⟨a, xs, e, n, s, he _ _ q s, l, RpL.ext g he r⟩
  | .dit _ _, _, h => by unfold Rp at h ⊢; obtain ⟨a, xs, e, n, s, q, l, r⟩ := h; exact ⟨a, xs, e, n, s, he _ _ q s, l, RpL.ext g he r⟩
  | .fn _, _, h => by unfold Rp at h ⊢; exact h
  | .par _ _, _, h => by unfold Rp at h ⊢; obtain ⟨a, x, y, e, s, r, t⟩ := h; exact ⟨a, x, y, e, sqT_ext g he s, Rp.ext g he r, Rp.ext g he t⟩
  | .well, _, h => by unfold Rp at h ⊢; exact h
  | .scr _, _, h => by unfold Rp at h ⊢; obtain ⟨a, e, s⟩ := h; exact ⟨a, e, scrR_ext g he s⟩
theorem RpL.ext {C : DC} {O : Addr → Prop} {H H' : Hp} (g : GI C H) (he : Ext C H H') : ∀ {ds : List D} {vs : List V}, RpL C O H ds vs → RpL C O H' ds vs
  | [], _, h => by unfold RpL at h ⊢; exact h
  | _ :: _, _, h => by unfold RpL at h ⊢; obtain ⟨v, vs, e, r, t⟩ := h; exact ⟨v, vs, e, Rp.ext g he r, RpL.ext g he t⟩
end
theorem RpT.ext {C : DC} {O : Addr → Prop} {H H' : Hp} (g : GI C H) (he : Ext C H H') {d : D} {v : V} (h : RpT C O H d v) : RpT C O H' d v := by
  cases d <;> first
    | exact Rp.ext g he h
    | (obtain ⟨a, xs, e, s, q, r⟩ := h; exact ⟨a, xs, e, s, he _ _ q s, r.ext g he⟩)
    | (obtain ⟨a, xs, e, s, q, l, r⟩ := h; exact ⟨a, xs, e, s, he _ _ q s, l, r.ext g he⟩)
theorem RpF.ext {cl : Bool} {C : DC} {O : Addr → Prop} {H H' : Hp} (g : GI C H) (he : Ext C H H') {d : D} {v : V} (h : RpF cl C O H d v) : RpF cl C O H' d v := by
  cases cl
  · exact RpT.ext g he h
  · exact Rp.ext g he h

/-! ### small readings of Rp -/
section
variable {C : DC} {O : Addr → Prop} {H : Hp} {v : V} {d : D} {ds : List D} {vs : List V} {cl : Bool}
theorem rp_non : Rp C O H .non v ↔ v = .non := by unfold Rp; exact Iff.rfl
theorem rp_bl {b : Bool} : Rp C O H (.bl b) v ↔ v = .bl b := by unfold Rp; exact Iff.rfl
theorem rp_int {i : Int} : Rp C O H (.int i) v ↔ v = .int i := by unfold Rp; exact Iff.rfl
theorem rp_str {x : Str} : Rp C O H (.str x) v ↔ v = .str x := by unfold Rp; exact Iff.rfl
theorem rp_tup : Rp C O H (.tup ds) v ↔ ∃ a xs, v = .ref a ∧ TupR C.K H a xs ∧ RpL C O H ds xs := by unfold Rp; exact Iff.rfl
theorem rp_lst : Rp C O H (.lst ds) v ↔ ∃ a xs, v = .ref a ∧ ¬ O a ∧ ¬ C.Spc a ∧ H a = some (.lst xs) ∧ RpL C O H ds xs := by unfold Rp; exact Iff.rfl
theorem rf_bl {b : Bool} (h : RpF cl C O H (.bl b) v) : v = .bl b := by
  cases cl
  · exact rp_bl.mp (show Rp C O H _ v from h)
  · exact rp_bl.mp (show Rp C O H _ v from h)
theorem rf_int {i : Int} (h : RpF cl C O H (.int i) v) : v = .int i := by
  cases cl
  · exact rp_int.mp (show Rp C O H _ v from h)
  · exact rp_int.mp (show Rp C O H _ v from h)
theorem rf_str {x : Str} (h : RpF cl C O H (.str x) v) : v = .str x := by
  cases cl
  · exact rp_str.mp (show Rp C O H _ v from h)
  · exact rp_str.mp (show Rp C O H _ v from h)
theorem rf_non (h : RpF cl C O H .non v) : v = .non := by
  cases cl
  · exact rp_non.mp (show Rp C O H _ v from h)
  · exact rp_non.mp (show Rp C O H _ v from h)
theorem rf_tup (h : RpF cl C O H (.tup ds) v) : ∃ a xs, v = .ref a ∧ TupR C.K H a xs ∧ RpL C O H ds xs := by
  cases cl
  · exact rp_tup.mp (show Rp C O H _ v from h)
  · exact rp_tup.mp (show Rp C O H _ v from h)
theorem rf_lst (h : RpF cl C O H (.lst ds) v) : ∃ a xs, v = .ref a ∧ ¬ C.Spc a ∧ H a = some (.lst xs) ∧ RpL C O H ds xs := by
  cases cl
  · exact h
  · obtain ⟨a, xs, e, _, r⟩ := rp_lst.mp h
    exact ⟨a, xs, e, r⟩
theorem rl_nil : RpL C O H [] vs ↔ vs = [] := by unfold RpL; exact Iff.rfl
theorem rl_cons : RpL C O H (d :: ds) vs ↔ ∃ v ws, vs = v :: ws ∧ Rp C O H d v ∧ RpL C O H ds ws := by conv => lhs; unfold RpL
theorem RpL.cons (h : Rp C O H d v) (t : RpL C O H ds vs) : RpL C O H (d :: ds) (v :: vs) := rl_cons.mpr ⟨v, vs, rfl, h, t⟩
theorem RpL.nil : RpL C O H [] [] := rl_nil.mpr rfl
theorem RpL.length : ∀ {ds : List D} {vs : List V}, RpL C O H ds vs → vs.length = ds.length
  | [], vs, h => by rw [rl_nil.mp h]; rfl
  | d :: ds, vs, h => by obtain ⟨v, ws, rfl, _, t⟩ := rl_cons.mp h; simp [RpL.length t]
theorem RpL.app : ∀ {ds es : List D} {vs ws : List V}, RpL C O H ds vs → RpL C O H es ws → RpL C O H (ds ++ es) (vs ++ ws)
  | [], es, vs, ws, h, k => by rw [rl_nil.mp h]; exact k
  | d :: ds, es, vs, ws, h, k => by obtain ⟨v, us, rfl, r, t⟩ := rl_cons.mp h; exact RpL.cons r (RpL.app t k)
theorem RpL.get : ∀ {ds : List D} {vs : List V} {i : Nat} {d : D}, RpL C O H ds vs → ds[i]? = some d → ∃ v, vs[i]? = some v ∧ Rp C O H d v
  | [], _, i, d, _, e => by simp at e
  | _ :: ds, vs, 0, d, h, e => by
    obtain ⟨v, us, rfl, r, t⟩ := rl_cons.mp h
    simp at e; subst e
    exact ⟨v, rfl, r⟩
  | _ :: ds, vs, i + 1, d, h, e => by
    obtain ⟨v, us, rfl, r, t⟩ := rl_cons.mp h
    simpa using RpL.get (i := i) (d := d) t (by simpa using e)
theorem RpL.getv : ∀ {ds : List D} {vs : List V} {i : Nat} {v : V}, RpL C O H ds vs → vs[i]? = some v → ∃ d, ds[i]? = some d ∧ Rp C O H d v
  | [], vs, i, v, h, e => by rw [rl_nil.mp h] at e; simp at e
  | d :: ds, vs, 0, v, h, e => by
    obtain ⟨v', us, rfl, r, t⟩ := rl_cons.mp h
    simp at e; subst e
    exact ⟨d, rfl, r⟩
  | _ :: ds, vs, i + 1, v, h, e => by
    obtain ⟨v', us, rfl, r, t⟩ := rl_cons.mp h
    simpa using RpL.getv (i := i) (v := v) t (by simpa using e)
theorem RpL.take : ∀ {ds : List D} {vs : List V} (n : Nat), RpL C O H ds vs → RpL C O H (ds.take n) (vs.take n)
  | _, _, 0, _ => by simp [rl_nil]
  | [], vs, n + 1, h => by rw [rl_nil.mp h]; simp [rl_nil]
  | d :: ds, vs, n + 1, h => by
    obtain ⟨v, us, rfl, r, t⟩ := rl_cons.mp h
    exact RpL.cons r (RpL.take n t)
theorem RpL.drop : ∀ {ds : List D} {vs : List V} (n : Nat), RpL C O H ds vs → RpL C O H (ds.drop n) (vs.drop n)
  | _, _, 0, h => h
  | [], vs, n + 1, h => by rw [rl_nil.mp h]; simp [rl_nil]
  | d :: ds, vs, n + 1, h => by
    obtain ⟨v, us, rfl, r, t⟩ := rl_cons.mp h
    exact RpL.drop n t
theorem RpL.rev {ds : List D} {vs : List V} (h : RpL C O H ds vs) : RpL C O H ds.reverse vs.reverse := by
  induction ds generalizing vs with
  | nil => rw [rl_nil.mp h]; exact rl_nil.mpr rfl
  | cons d ds ih =>
    obtain ⟨v, us, rfl, r, t⟩ := rl_cons.mp h
    rw [List.reverse_cons, List.reverse_cons]
    exact (ih t).app (RpL.cons r RpL.nil)
theorem RpL.set : ∀ {ds : List D} {vs : List V} (i : Nat), RpL C O H ds vs → Rp C O H d v → RpL C O H (ds.set i d) (vs.set i v)
  | [], vs, i, h, r => by rw [rl_nil.mp h]; simp [rl_nil]
  | e :: ds, vs, 0, h, r => by
    obtain ⟨v', us, rfl, r', t⟩ := rl_cons.mp h
    exact RpL.cons r t
  | e :: ds, vs, i + 1, h, r => by
    obtain ⟨v', us, rfl, r', t⟩ := rl_cons.mp h
    exact RpL.cons r' (RpL.set i t r)
theorem RpL.erase : ∀ {ds : List D} {vs : List V} (i : Nat), RpL C O H ds vs → RpL C O H (ds.eraseIdx i) (vs.eraseIdx i)
  | [], vs, i, h => by rw [rl_nil.mp h]; simp [rl_nil]
  | e :: ds, vs, 0, h => by
    obtain ⟨v', us, rfl, r', t⟩ := rl_cons.mp h
    exact t
  | e :: ds, vs, i + 1, h => by
    obtain ⟨v', us, rfl, r', t⟩ := rl_cons.mp h
    exact RpL.cons r' (RpL.erase i t)
theorem rl_ints : ∀ {ns : List Int} {vs : List V}, RpL C O H (ns.map D.int) vs ↔ vs = ns.map V.int
  | [], vs => rl_nil
  | n :: ns, vs => by
    rw [List.map_cons, rl_cons]
    constructor
    · rintro ⟨v, ws, rfl, r, t⟩
      rw [rp_int.mp r, rl_ints.mp t]; rfl
    · rintro rfl
      exact ⟨_, _, rfl, rp_int.mpr rfl, rl_ints.mpr rfl⟩
theorem rl_strs : ∀ {ns : List Str} {vs : List V}, RpL C O H (ns.map D.str) vs ↔ vs = ns.map V.str
  | [], vs => rl_nil
  | n :: ns, vs => by
    rw [List.map_cons, rl_cons]
    constructor
    · rintro ⟨v, ws, rfl, r, t⟩
      rw [rp_str.mp r, rl_strs.mp t]; rfl
    · rintro rfl
      exact ⟨_, _, rfl, rp_str.mpr rfl, rl_strs.mpr rfl⟩
theorem rl_bls : ∀ {ns : List Bool} {vs : List V}, RpL C O H (ns.map D.bl) vs ↔ vs = ns.map V.bl
  | [], vs => rl_nil
  | n :: ns, vs => by
    rw [List.map_cons, rl_cons]
    constructor
    · rintro ⟨v, ws, rfl, r, t⟩
      rw [rp_bl.mp r, rl_bls.mp t]; rfl
    · rintro rfl
      exact ⟨_, _, rfl, rp_bl.mpr rfl, rl_bls.mpr rfl⟩
end
end DL

set_option Elab.async false
set_option linter.all false
set_option maxRecDepth 100000
namespace DL
open PySem PySem.Spec PyProof.Rows L2 NdefX LamX

/-! ### the running def's slots -/
def OwnS (ρ : Ev) (α : Nat → Addr) (a : Addr) : Prop := ∃ i d, ρ[i]? = some (some (Slot.own d)) ∧ α i = a
def Own (S0 : Addr → Prop) (ρ : Ev) (α : Nat → Addr) (a : Addr) : Prop := S0 a ∨ OwnS ρ α a
structure Rel (C : DC) (O : Addr → Prop) (H : Hp) (O' : Addr → Prop) (H' : Hp) : Prop where
  keep : ∀ a o, H a = some o → ¬ O a → ¬ C.Spc a → H' a = some o
  own : ∀ a, O' a → O a ∨ H a = none
theorem Rel.refl {C : DC} {O : Addr → Prop} {H : Hp} : Rel C O H O H := ⟨fun _ _ h _ _ => h, fun _ h => .inl h⟩
theorem Rel.trans {C : DC} {O1 O2 O3 : Addr → Prop} {H1 H2 H3 : Hp} (g : GI C H2) (a : Rel C O1 H1 O2 H2) (b : Rel C O2 H2 O3 H3) : Rel C O1 H1 O3 H3 where
  keep := fun x o h n s => b.keep x o (a.keep x o h n s) (fun z => (a.own x z).elim n fun q => by rw [h] at q; cases q) s
  own := fun x h => (b.own x h).elim (fun z => a.own x z) fun z => by
    by_cases n : O1 x
    · exact .inl n
    · refine .inr ?_
      cases e : H1 x with
      | none => rfl
      | some o =>
        by_cases s : C.Spc x
        · exact absurd z (g.some s)
        · rw [a.keep x o e n s] at z; cases z
theorem Rel.of_ext {C : DC} {O : Addr → Prop} {H H' : Hp} (e : Ext C H H') : Rel C O H O H' := ⟨fun a o h _ s => e a o h s, fun _ h => .inl h⟩
theorem Rel.less {C : DC} {O O' O'' : Addr → Prop} {H H' : Hp} (a : Rel C O H O' H') (h : ∀ x, O'' x → O' x) : Rel C O H O'' H' := ⟨a.keep, fun x z => a.own x (h x z)⟩

/-- what an owned thing's object is -/
inductive OwnO : HO → Prop
  | lst {xs} : OwnO (.lst xs)
  | dK {kvs} : OwnO (.dK kvs)
  | dT {kvs} : OwnO (.dT kvs)
/-- what may stand in an owned slot -/
inductive OwnD : D → Prop
  | lst {ds} : OwnD (.lst ds)
  | dik {ks ds} : OwnD (.dik ks ds)
  | dit {ks ds} : OwnD (.dit ks ds)
theorem rt_own {C : DC} {O : Addr → Prop} {H : Hp} {d : D} {v : V} (h : RpT C O H d v) (hd : OwnD d) : ∃ a, v = .ref a ∧ ¬ C.Spc a ∧ ∃ o, H a = some o ∧ OwnO o := by
  cases hd with
  | lst => obtain ⟨a, xs, e, s, q, _⟩ := h; exact ⟨a, e, s, _, q, .lst⟩
  | dik => obtain ⟨a, xs, e, s, q, _⟩ := h; exact ⟨a, e, s, _, q, .dK⟩
  | dit => obtain ⟨a, xs, e, s, q, _⟩ := h; exact ⟨a, e, s, _, q, .dT⟩

/-- what is fixed through a def's body: the context, the addresses that its caller holds, the heap at its entry -/
structure BX where
  C : DC
  S0 : Addr → Prop
  H0 : Hp
def SlotOk (B : BX) (O : Addr → Prop) (a : Addr) (H : Hp) (v : V) : Slot → Prop
  | .dat d => Rp B.C O H d v
  | .own d => OwnD d ∧ v = .ref a ∧ RpT B.C O H d v
structure EnvOk (B : BX) (α : Nat → Addr) (σ : L2.St) (H : Hp) (ρ : Ev) : Prop where
  gi : GI B.C H
  rel : Rel B.C (fun _ => False) B.H0 (OwnS ρ α) H
  len : σ.length = ρ.length
  slot : ∀ i s, ρ[i]? = some (some s) → ∃ v, σ[i]? = some (some v) ∧ SlotOk B (Own B.S0 ρ α) (α i) H v s
  inj : ∀ i j d e, ρ[i]? = some (some (Slot.own d)) → ρ[j]? = some (some (Slot.own e)) → α i = α j → i = j
  s0 : ∀ a, B.S0 a → (∃ u, H a = some u ∧ OwnO u) ∧ ¬ B.C.Spc a ∧ ¬ OwnS ρ α a

/-- the addresses that must not come into data stand for something -/
def ON (C : DC) (O : Addr → Prop) (H : Hp) : Prop := ∀ a, O a → (∃ u, H a = some u ∧ OwnO u) ∧ ¬ C.Spc a
theorem ON.ext {C : DC} {O : Addr → Prop} {H H' : Hp} (n : ON C O H) (e : Ext C H H') : ON C O H' := fun a h => by
  obtain ⟨⟨u, q, o⟩, s⟩ := n a h
  exact ⟨⟨u, e a u q s, o⟩, s⟩

section
variable {B : BX} {α : Nat → Addr} {σ : L2.St} {H H' : Hp} {ρ : Ev}
theorem slot_own (E : EnvOk B α σ H ρ) {i : Nat} {d : D} (h : ρ[i]? = some (some (Slot.own d))) : σ[i]? = some (some (.ref (α i))) ∧ OwnD d ∧ RpT B.C (Own B.S0 ρ α) H d (.ref (α i)) := by
  obtain ⟨v, e, od, q, r⟩ := E.slot i _ h
  subst q
  exact ⟨e, od, r⟩
theorem slot_dat (E : EnvOk B α σ H ρ) {i : Nat} {d : D} (h : ρ[i]? = some (some (Slot.dat d))) : ∃ v, σ[i]? = some (some v) ∧ Rp B.C (Own B.S0 ρ α) H d v := E.slot i _ h
theorem own_obj (E : EnvOk B α σ H ρ) {a : Addr} (h : OwnS ρ α a) : ¬ B.C.Spc a ∧ ∃ o, H a = some o ∧ OwnO o := by
  obtain ⟨i, d, e, rfl⟩ := h
  obtain ⟨_, od, r⟩ := slot_own E e
  obtain ⟨a, q, s, o⟩ := rt_own r od
  cases q
  exact ⟨s, o⟩
theorem EnvOk.on (E : EnvOk B α σ H ρ) : ON B.C (Own B.S0 ρ α) H := fun a h => by
  rcases h with h | h
  · obtain ⟨n, s, _⟩ := E.s0 a h
    exact ⟨n, s⟩
  · obtain ⟨s, o⟩ := own_obj E h
    exact ⟨o, s⟩
theorem SlotOk.ext {O : Addr → Prop} {a : Addr} {v : V} {s : Slot} (g : GI B.C H) (e : Ext B.C H H') (h : SlotOk B O a H v s) : SlotOk B O a H' v s := by
  cases s with
  | dat d => exact Rp.ext g e h
  | own d => exact ⟨h.1, h.2.1, h.2.2.ext g e⟩
theorem EnvOk.ext (E : EnvOk B α σ H ρ) (g : GI B.C H') (e : Ext B.C H H') : EnvOk B α σ H' ρ :=
  ⟨g, E.rel.trans E.gi (.of_ext e), E.len, fun i s h => by obtain ⟨v, h1, h2⟩ := E.slot i s h; exact ⟨v, h1, h2.ext E.gi e⟩, E.inj, fun a h => by obtain ⟨⟨u, q, o⟩, s, n⟩ := E.s0 a h; exact ⟨⟨u, e a u q s, o⟩, s, n⟩⟩
end
/-! ### what a fresh or a written address does to data -/
section
variable {C : DC} {O O' : Addr → Prop} {H : Hp} {a : Addr}
mutual
theorem Rp.avoid (hn : H a = none) : ∀ {d : D} {v : V}, Rp C O H d v → Rp C (fun b => O b ∨ b = a) H d v
  | .non, _, h => by unfold Rp at h ⊢; exact h
  | .bl _, _, h => by unfold Rp at h ⊢; exact h
  | .int _, _, h => by unfold Rp at h ⊢; exact h
  | .str _, _, h => by unfold Rp at h ⊢; exact h
  | .tup _, _, h => by unfold Rp at h ⊢; obtain ⟨b, xs, e, s, r⟩ := h; exact ⟨b, xs, e, s, RpL.avoid hn r⟩
  | .lst _, _, h => by unfold Rp at h ⊢; obtain ⟨b, xs, e, n, s, q, r⟩ := h; exact ⟨b, xs, e, fun z => z.elim n fun z => (ne_of_none q hn) z, s, q, RpL.avoid hn r⟩
  | .dik _ _, _, h => by unfold Rp at h ⊢; obtain ⟨b, xs, e, n, s, q, l, r⟩ := h; exact ⟨b, xs, e, fun z => z.elim n fun z => (ne_of_none q hn) z, s, q, l, RpL.avoid hn r⟩
  | .dit _ _, _, h => by unfold Rp at h ⊢; obtain ⟨b, xs, e, n, s, q, l, r⟩ := h; exact ⟨b, xs, e, fun z => z.elim n fun z => (ne_of_none q hn) z, s, q, l, RpL.avoid hn r⟩
  | .fn _, _, h => by unfold Rp at h ⊢; exact h
  | .par _ _, _, h => by unfold Rp at h ⊢; obtain ⟨a, x, y, e, s, r, t⟩ := h; exact ⟨a, x, y, e, s, Rp.avoid hn r, Rp.avoid hn t⟩
  | .well, _, h => by unfold Rp at h ⊢; exact h
  | .scr _, _, h => by unfold Rp at h ⊢; exact h
theorem RpL.avoid (hn : H a = none) : ∀ {ds : List D} {vs : List V}, RpL C O H ds vs → RpL C (fun b => O b ∨ b = a) H ds vs
  | [], _, h => by unfold RpL at h ⊢; exact h
  | _ :: _, _, h => by unfold RpL at h ⊢; obtain ⟨v, vs, e, r, t⟩ := h; exact ⟨v, vs, e, Rp.avoid hn r, RpL.avoid hn t⟩
end
theorem RpT.avoid (hn : H a = none) {d : D} {v : V} (h : RpT C O H d v) : RpT C (fun b => O b ∨ b = a) H d v := by
  cases d <;> first
    | exact Rp.avoid hn h
    | (obtain ⟨b, xs, e, s, q, r⟩ := h; exact ⟨b, xs, e, s, q, r.avoid hn⟩)
    | (obtain ⟨b, xs, e, s, q, l, r⟩ := h; exact ⟨b, xs, e, s, q, l, r.avoid hn⟩)
theorem RpT.mono (ho : ∀ a, O' a → O a) {d : D} {v : V} (h : RpT C O H d v) : RpT C O' H d v := by
  cases d <;> first
    | exact Rp.mono ho h
    | (obtain ⟨b, xs, e, s, q, r⟩ := h; exact ⟨b, xs, e, s, q, r.mono ho⟩)
    | (obtain ⟨b, xs, e, s, q, l, r⟩ := h; exact ⟨b, xs, e, s, q, l, r.mono ho⟩)
theorem sqT_write {o o' : HO} (hO : OwnO o) (ha : H a = some o) {K : PySem.W.Frag} {b : Addr} {xs : List V} (h : SqT K H b xs) : SqT K (upd H a o') b xs := by
  rcases h with (h | ⟨u, h⟩) | h
  · exact .inl (.inl (by rw [upd_ne (ne_of h ha (by cases hO <;> intro z <;> cases z))]; exact h))
  · exact .inl (.inr ⟨u, by rw [upd_ne (ne_of h ha (by cases hO <;> intro z <;> cases z))]; exact h⟩)
  · exact .inr h
theorem tupR_write {o o' : HO} (hO : OwnO o) (ha : H a = some o) {K : PySem.W.Frag} {b : Addr} {xs : List V} (h : TupR K H b xs) : TupR K (upd H a o') b xs := by
  rcases h with ⟨u, h, d⟩ | h
  · exact .inl ⟨u, by rw [upd_ne (ne_of h ha (by cases hO <;> intro z <;> cases z))]; exact h, d⟩
  · exact .inr h
theorem ext_write {o o' : HO} (hO : OwnO o) (ha : H a = some o) {b : Addr} {φ : Heap → Prop} (h : H b = some (.ext φ)) : upd H a o' b = some (.ext φ) := by
  rw [upd_ne (ne_of h ha (by cases hO <;> intro z <;> cases z))]; exact h
mutual
theorem Rp.write {o o' : HO} (hO : OwnO o) (ha : H a = some o) (ho : O a) : ∀ {d : D} {v : V}, Rp C O H d v → Rp C O (upd H a o') d v
  | .non, _, h => by unfold Rp at h ⊢; exact h
  | .bl _, _, h => by unfold Rp at h ⊢; exact h
  | .int _, _, h => by unfold Rp at h ⊢; exact h
  | .str _, _, h => by unfold Rp at h ⊢; exact h
  | .tup _, _, h => by unfold Rp at h ⊢; obtain ⟨b, xs, e, s, r⟩ := h; exact ⟨b, xs, e, tupR_write hO ha s, RpL.write hO ha ho r⟩
  | .lst _, _, h => by unfold Rp at h ⊢; obtain ⟨b, xs, e, n, s, q, r⟩ := h; exact ⟨b, xs, e, n, s, by rw [upd_ne (fun z => n (by rw [z]; exact ho))]; exact q, RpL.write hO ha ho r⟩
  | .dik _ _, _, h => by unfold Rp at h ⊢; obtain ⟨b, xs, e, n, s, q, l, r⟩ := h; exact ⟨b, xs, e, n, s, by rw [upd_ne (fun z => n (by rw [z]; exact ho))]; exact q, l, RpL.write hO ha ho r⟩
  | .dit _ _, _, h => by unfold Rp at h ⊢; obtain ⟨b, xs, e, n, s, q, l, r⟩ := h; exact ⟨b, xs, e, n, s, by rw [upd_ne (fun z => n (by rw [z]; exact ho))]; exact q, l, RpL.write hO ha ho r⟩
  | .fn _, _, h => by unfold Rp at h ⊢; exact h
  | .par _ _, _, h => by unfold Rp at h ⊢; obtain ⟨a, x, y, e, s, r, t⟩ := h; exact ⟨a, x, y, e, sqT_write hO ha s, Rp.write hO ha ho r, Rp.write hO ha ho t⟩
  | .well, _, h => by unfold Rp at h ⊢; exact h
  | .scr _, _, h => by unfold Rp at h ⊢; obtain ⟨b, e, s⟩ := h; exact ⟨b, e, s.elim (fun ⟨u, h⟩ => .inl ⟨u, by rw [upd_ne (ne_of h ha (by cases hO <;> intro z <;> cases z))]; exact h⟩) .inr⟩
theorem RpL.write {o o' : HO} (hO : OwnO o) (ha : H a = some o) (ho : O a) : ∀ {ds : List D} {vs : List V}, RpL C O H ds vs → RpL C O (upd H a o') ds vs
  | [], _, h => by unfold RpL at h ⊢; exact h
  | _ :: _, _, h => by unfold RpL at h ⊢; obtain ⟨v, vs, e, r, t⟩ := h; exact ⟨v, vs, e, Rp.write hO ha ho r, RpL.write hO ha ho t⟩
end
/-- another owned thing is not touched -/
theorem RpT.write {o o' : HO} (hO : OwnO o) (ha : H a = some o) (ho : O a) {d : D} {b : Addr} (hb : b ≠ a) (h : RpT C O H d (.ref b)) : RpT C O (upd H a o') d (.ref b) := by
  cases d <;> first
    | exact Rp.write hO ha ho h
    | (obtain ⟨c, xs, e, s, q, r⟩ := h; cases e; exact ⟨b, xs, rfl, s, by rw [upd_ne hb]; exact q, r.write hO ha ho⟩)
    | (obtain ⟨c, xs, e, s, q, l, r⟩ := h; cases e; exact ⟨b, xs, rfl, s, by rw [upd_ne hb]; exact q, l, r.write hO ha ho⟩)
/-- a new object -/
theorem Ext.new {o : HO} (hn : H a = none) : Ext C H (upd H a o) := fun b u e _ => by rw [upd_ne (ne_of_none e hn)]; exact e
theorem WellAt.new {b : Addr} {o : HO} (hn : H a = none) (h : WellAt H b) : WellAt (upd H a o) b := by
  obtain ⟨i, j, k, e, r⟩ := h
  exact ⟨i, j, k, by rw [upd_ne (ne_of_none e hn)]; exact e, r⟩
theorem GI.new {o : HO} (g : GI C H) (hn : H a = Option.none) : GI C (upd H a o) :=
  ⟨TabsN.ext g.tabs fun b u e => by rw [upd_ne (ne_of_none e hn)]; exact e, fun b e => (g.well b e).new hn⟩
theorem GI.notNew (g : GI C H) (hn : H a = none) : ¬ C.Spc a := fun z => DL.GI.some g z hn
theorem TabN.write {o o' : HO} {P : Addr} {nm : Nat → Nat → Str} (hO : OwnO o) (ha : H a = some o) (h : TabN H P nm) : TabN (upd H a o') P nm := by
  obtain ⟨ps, h1, h2, h3⟩ := h
  refine ⟨ps, by rw [upd_ne (ne_of h1 ha (by cases hO <;> intro z <;> cases z))]; exact h1, h2, fun pos cv hc => ?_⟩
  obtain ⟨c, e1, e2⟩ := h3 pos cv hc
  refine ⟨c, e1, ?_⟩
  unfold CodeO at e2 ⊢
  exact ext_write hO ha e2
theorem GI.write {o o' : HO} (g : GI C H) (hO : OwnO o) (ha : H a = Option.some o) (hs : ¬ C.Spc a) : GI C (upd H a o') :=
  ⟨fun p hp => TabN.write hO ha (g.tabs p hp), fun b e => by
    obtain ⟨i, j, k, q, r⟩ := g.well b e
    exact ⟨i, j, k, by rw [upd_ne (fun z => hs (.inl (by rw [← z]; exact e)))]; exact q, r⟩⟩
end

/-! ### storing into slots -/
section
variable {B : BX} {α : Nat → Addr} {σ : L2.St} {H H' : Hp} {ρ : Ev}
theorem getset {β : Type} {l : List β} {i j : Nat} {x y : β} (h : (l.set i x)[j]? = some y) : (j = i ∧ y = x ∧ i < l.length) ∨ (j ≠ i ∧ l[j]? = some y) := by
  by_cases e : j = i
  · subst e
    by_cases hl : j < l.length
    · rw [List.getElem?_set_self hl] at h
      exact .inl ⟨rfl, (Option.some.inj h).symm, hl⟩
    · rw [List.getElem?_eq_none (by rw [List.length_set]; omega)] at h; cases h
  · rw [List.getElem?_set_ne (Ne.symm e)] at h
    exact .inr ⟨e, h⟩
theorem ownS_dat {i : Nat} {d : D} {a : Addr} (h : OwnS (ρ.set i (some (.dat d))) α a) : OwnS ρ α a := by
  obtain ⟨j, e, h1, h2⟩ := h
  rcases getset h1 with ⟨rfl, q, _⟩ | ⟨_, q⟩
  · cases q
  · exact ⟨j, e, q, h2⟩
theorem own_dat {i : Nat} {d : D} {a : Addr} (h : Own B.S0 (ρ.set i (some (.dat d))) α a) : Own B.S0 ρ α a := h.elim .inl fun z => .inr (ownS_dat z)
theorem SlotOk.mono {O O' : Addr → Prop} (ho : ∀ a, O' a → O a) {a : Addr} {v : V} {s : Slot} (h : SlotOk B O a H v s) : SlotOk B O' a H v s := by
  cases s with
  | dat d => exact Rp.mono ho h
  | own d => exact ⟨h.1, h.2.1, h.2.2.mono ho⟩
/-- data comes into a slot -/
theorem EnvOk.setDat (E : EnvOk B α σ H ρ) {i : Nat} {d : D} {v : V} (r : Rp B.C (Own B.S0 ρ α) H d v) : EnvOk B α (σ.set i (some v)) H (ρ.set i (some (.dat d))) := by
  refine ⟨E.gi, E.rel.less fun x h => ownS_dat h, by rw [List.length_set, List.length_set]; exact E.len, fun j s h => ?_, fun j k e f h1 h2 => ?_, fun a h => ⟨(E.s0 a h).1, (E.s0 a h).2.1, fun z => (E.s0 a h).2.2 (ownS_dat z)⟩⟩
  · rcases getset h with ⟨rfl, q, hl⟩ | ⟨hj, q⟩
    · cases q
      exact ⟨v, List.getElem?_set_self (by rw [E.len]; exact hl), Rp.mono (fun a => own_dat) r⟩
    · obtain ⟨w, h1, h2⟩ := E.slot j s q
      exact ⟨w, by rw [List.getElem?_set_ne (Ne.symm hj)]; exact h1, h2.mono fun a => own_dat⟩
  · rcases getset h1 with ⟨rfl, q, hl⟩ | ⟨hj, q⟩
    · cases q
    · rcases getset h2 with ⟨rfl, q', hl⟩ | ⟨hk, q'⟩
      · cases q'
      · exact E.inj j k e f q q'
/-- a slot is forgotten -/
theorem EnvOk.setNone (E : EnvOk B α σ H ρ) {i : Nat} {u : Option V} : EnvOk B α (σ.set i u) H (ρ.set i none) := by
  have hs : ∀ a, OwnS (ρ.set i none) α a → OwnS ρ α a := fun a ⟨j, e, h1, h2⟩ => by
    rcases getset h1 with ⟨rfl, q, _⟩ | ⟨_, q⟩
    · cases q
    · exact ⟨j, e, q, h2⟩
  refine ⟨E.gi, E.rel.less fun x h => hs x h, by rw [List.length_set, List.length_set]; exact E.len, fun j s h => ?_, fun j k e f h1 h2 => ?_, fun a h => ⟨(E.s0 a h).1, (E.s0 a h).2.1, fun z => (E.s0 a h).2.2 (hs a z)⟩⟩
  · rcases getset h with ⟨rfl, q, hl⟩ | ⟨hj, q⟩
    · cases q
    · obtain ⟨w, h1, h2⟩ := E.slot j s q
      exact ⟨w, by rw [List.getElem?_set_ne (Ne.symm hj)]; exact h1, h2.mono fun a z => z.elim .inl fun z => .inr (hs a z)⟩
  · rcases getset h1 with ⟨rfl, q, hl⟩ | ⟨hj, q⟩
    · cases q
    · rcases getset h2 with ⟨rfl, q', hl⟩ | ⟨hk, q'⟩
      · cases q'
      · exact E.inj j k e f q q'
/-- an owned thing is changed no more: its slot holds data from now on -/
theorem EnvOk.release (E : EnvOk B α σ H ρ) {i : Nat} {d : D} (h : ρ[i]? = some (some (Slot.own d))) : EnvOk B α σ H (ρ.set i (some (.dat d))) := by
  obtain ⟨h1, od, r⟩ := slot_own E h
  have hl : i < ρ.length := (List.getElem?_eq_some_iff.mp h).1
  refine ⟨E.gi, E.rel.less fun x h => ownS_dat h, by rw [List.length_set]; exact E.len, fun j s h2 => ?_, fun j k e f h2 h3 => ?_, fun a h => ⟨(E.s0 a h).1, (E.s0 a h).2.1, fun z => (E.s0 a h).2.2 (ownS_dat z)⟩⟩
  · rcases getset h2 with ⟨rfl, q, _⟩ | ⟨hj, q⟩
    · cases q
      refine ⟨_, h1, ?_⟩
      have no : ¬ Own B.S0 (ρ.set j (some (.dat d))) α (α j) := fun z => by
        rcases z with z | ⟨k, e, z1, z2⟩
        · exact (E.s0 _ z).2.2 ⟨j, d, h, rfl⟩
        · rcases getset z1 with ⟨rfl, q, _⟩ | ⟨hk, q⟩
          · cases q
          · exact hk (E.inj k j e d q h z2)
      have r2 := r.mono (O' := Own B.S0 (ρ.set j (some (.dat d))) α) fun a => own_dat
      show Rp B.C _ H d _
      cases od with
      | lst => obtain ⟨a, xs, e, s, q, t⟩ := r2; cases e; exact rp_lst.mpr ⟨_, xs, rfl, no, s, q, t⟩
      | dik => obtain ⟨a, xs, e, s, q, t⟩ := r2; cases e; unfold Rp; exact ⟨_, xs, rfl, no, s, q, t⟩
      | dit => obtain ⟨a, xs, e, s, q, t⟩ := r2; cases e; unfold Rp; exact ⟨_, xs, rfl, no, s, q, t⟩
    · obtain ⟨w, q1, q2⟩ := E.slot j s q
      exact ⟨w, q1, q2.mono fun a => own_dat⟩
  · rcases getset h2 with ⟨rfl, q, hl⟩ | ⟨hj, q⟩
    · cases q
    · rcases getset h3 with ⟨rfl, q', hl⟩ | ⟨hk, q'⟩
      · cases q'
      · exact E.inj j k e f q q'
/-- a new list (dict) comes into a slot, to be changed there -/
theorem EnvOk.setOwn (E0 : EnvOk B α σ H ρ) {i : Nat} {d : D} {a : Addr} (ha : H a = none) (g : GI B.C H') (e : Ext B.C H H') (od : OwnD d) (r : RpT B.C (fun b => Own B.S0 ρ α b ∨ b = a) H' d (.ref a)) :
    EnvOk B (fun j => if j = i then a else α j) (σ.set i (some (.ref a))) H' (ρ.set i (some (.own d))) := by
  have E := E0.ext g e
  have hS : ∀ b, OwnS (ρ.set i (some (.own d))) (fun j => if j = i then a else α j) b → OwnS ρ α b ∨ b = a := fun b ⟨j, f, h1, h2⟩ => by
    have h2 : (if j = i then a else α j) = b := h2
    rcases getset h1 with ⟨rfl, q, _⟩ | ⟨hj, q⟩
    · rw [if_pos rfl] at h2; exact .inr h2.symm
    · rw [if_neg hj] at h2; exact .inl ⟨j, f, q, h2⟩
  have hO : ∀ b, Own B.S0 (ρ.set i (some (.own d))) (fun j => if j = i then a else α j) b → (Own B.S0 ρ α b ∨ b = a) := fun b z => z.elim (fun z => .inl (.inl z)) fun z => (hS b z).elim (fun z => .inl (.inr z)) .inr
  have na : ∀ j f, ρ[j]? = some (some (Slot.own f)) → α j ≠ a := fun j f h z => by
    obtain ⟨_, o, q, _⟩ := own_obj E0 ⟨j, f, h, rfl⟩
    rw [z, ha] at q; cases q
  refine ⟨g, ⟨E.rel.keep, fun b z => ?_⟩, by rw [List.length_set, List.length_set]; exact E.len, fun j s h => ?_, fun j k u f h1 h2 => ?_, fun b h => ⟨(E.s0 b h).1, (E.s0 b h).2.1, fun z => ?_⟩⟩
  · rcases hS b z with z | z
    · exact E.rel.own b z
    · refine .inr ?_
      cases q : B.H0 b with
      | none => rfl
      | some o =>
        rw [z] at q
        by_cases s : B.C.Spc a
        · exact absurd ha (E0.gi.some s)
        · rw [E0.rel.keep a o q (fun z => z) s] at ha; cases ha
  · rcases getset h with ⟨rfl, q, hl⟩ | ⟨hj, q⟩
    · cases q
      exact ⟨.ref a, List.getElem?_set_self (by rw [E.len]; exact hl), od, by rw [if_pos rfl], r.mono hO⟩
    · obtain ⟨w, h1, h2⟩ := E0.slot j s q
      refine ⟨w, by rw [List.getElem?_set_ne (Ne.symm hj)]; exact h1, ?_⟩
      show SlotOk B _ (if j = i then a else α j) H' w s
      rw [if_neg hj]
      refine SlotOk.mono hO ?_
      cases s with
      | dat f => exact Rp.ext E0.gi e (Rp.avoid ha h2)
      | own f => exact ⟨h2.1, h2.2.1, (h2.2.2.avoid ha).ext E0.gi e⟩
  · show (if j = i then a else α j) = (if k = i then a else α k) → j = k
    rcases getset h1 with ⟨rfl, q, hl⟩ | ⟨hj, q⟩
    · rcases getset h2 with ⟨rfl, q', hl⟩ | ⟨hk, q'⟩
      · intro _; rfl
      · intro z
        rw [if_pos rfl, if_neg hk] at z
        exact absurd z.symm (na k f q')
    · rcases getset h2 with ⟨rfl, q', hl⟩ | ⟨hk, q'⟩
      · intro z
        rw [if_neg hj, if_pos rfl] at z
        exact absurd z (na j u q)
      · intro z
        rw [if_neg hj, if_neg hk] at z
        exact E.inj j k u f q q' z
  · rcases hS b z with z | z
    · exact (E.s0 b h).2.2 z
    · rw [z] at h; obtain ⟨⟨u, q, _⟩, _⟩ := E0.s0 a h; rw [ha] at q; cases q
/-- an owned thing is changed -/
theorem EnvOk.change (E : EnvOk B α σ H ρ) {i : Nat} {d d' : D} {o' : HO} (h : ρ[i]? = some (some (Slot.own d))) (od : OwnD d')
    (r : RpT B.C (Own B.S0 ρ α) (upd H (α i) o') d' (.ref (α i))) : EnvOk B α σ (upd H (α i) o') (ρ.set i (some (.own d'))) := by
  obtain ⟨h1, _, r0⟩ := slot_own E h
  obtain ⟨s, o, q, oo⟩ := own_obj E ⟨i, d, h, rfl⟩
  have hl : i < ρ.length := (List.getElem?_eq_some_iff.mp h).1
  have hS : ∀ b, OwnS (ρ.set i (some (.own d'))) α b → OwnS ρ α b := fun b ⟨j, f, z1, z2⟩ => by
    rcases getset z1 with ⟨rfl, q, _⟩ | ⟨hj, q⟩
    · exact ⟨j, d, h, z2⟩
    · exact ⟨j, f, q, z2⟩
  have hO : ∀ b, Own B.S0 (ρ.set i (some (.own d'))) α b → Own B.S0 ρ α b := fun b z => z.elim .inl fun z => .inr (hS b z)
  have ho : Own B.S0 ρ α (α i) := .inr ⟨i, d, h, rfl⟩
  have hn : B.H0 (α i) = none := (E.rel.own _ ⟨i, d, h, rfl⟩).elim False.elim id
  refine ⟨E.gi.write oo q s, ⟨fun a u e n z => ?_, fun b z => E.rel.own b (hS b z)⟩, by rw [List.length_set]; exact E.len, fun j u z => ?_, fun j k e f z1 z2 => ?_,
    fun b h => ⟨by rw [upd_ne (fun z => (E.s0 b h).2.2 ⟨i, d, ‹_›, z.symm⟩)]; exact (E.s0 b h).1, (E.s0 b h).2.1, fun z => (E.s0 b h).2.2 (hS b z)⟩⟩
  · rw [upd_ne (fun z => by rw [z, hn] at e; cases e)]
    exact E.rel.keep a u e n z
  · rcases getset z with ⟨rfl, z', _⟩ | ⟨hj, z'⟩
    · cases z'
      exact ⟨_, h1, od, rfl, r.mono hO⟩
    · obtain ⟨w, q1, q2⟩ := E.slot j u z'
      refine ⟨w, q1, SlotOk.mono hO ?_⟩
      cases u with
      | dat f => exact Rp.write oo q ho q2
      | own f =>
        refine ⟨q2.1, q2.2.1, ?_⟩
        have q3 := q2.2.2
        rw [q2.2.1] at q3 ⊢
        exact q3.write oo q ho fun z => hj (E.inj j i f d z' h z)
  · have a1 : ∃ e', ρ[j]? = some (some (Slot.own e')) := by
      rcases getset z1 with ⟨rfl, _, _⟩ | ⟨_, z⟩
      · exact ⟨d, h⟩
      · exact ⟨e, z⟩
    have a2 : ∃ e', ρ[k]? = some (some (Slot.own e')) := by
      rcases getset z2 with ⟨rfl, _, _⟩ | ⟨_, z⟩
      · exact ⟨d, h⟩
      · exact ⟨f, z⟩
    obtain ⟨e1, a1⟩ := a1
    obtain ⟨e2, a2⟩ := a2
    exact E.inj j k e1 e2 a1 a2
end
end DL

set_option Elab.async false
set_option linter.all false
set_option maxRecDepth 100000
namespace DL
open PySem PySem.Spec PyProof.Rows L2 NdefX LamX

abbrev WE := Ev → (D → Prop) → Prop
abbrev WT := Ev → (Bool → Prop) → Prop
abbrev WA := Ev → (List D → Prop) → Prop
structure WEnds where
  nx : Ev → Prop
  rt : D → Prop
  bk : Ev → Prop := fun _ => False
  ct : Ev → Prop := fun _ => False
abbrev WS := WEnds → Ev → Prop
/-- n: a new object; c: clean; t: the root may be owned -/
inductive Fl | n | c | t
def Post (C : DC) (O : Addr → Prop) (H H' : Hp) : Fl → D → V → Prop
  | .n, d, v => ∃ a, v = .ref a ∧ H a = none ∧ RpT C (fun b => O b ∨ b = a) H' d (.ref a)
  | .c, d, v => Rp C O H' d v
  | .t, d, v => RpT C O H' d v
theorem Post.rt {C : DC} {O : Addr → Prop} {H H' : Hp} {d : D} {v : V} (h : Post C O H H' .t d v) : RpT C O H' d v := h
theorem Post.rc {C : DC} {O : Addr → Prop} {H H' : Hp} {d : D} {v : V} (h : Post C O H H' .c d v) : Rp C O H' d v := h
section
variable {C : DC} {O : Addr → Prop} {H H' : Hp}
theorem pc_bl {b : Bool} : Post C O H H' .c (.bl b) (.bl b) := (rp_bl (C := C) (O := O) (H := H')).mpr rfl
theorem pc_int {b : Int} : Post C O H H' .c (.int b) (.int b) := (rp_int (C := C) (O := O) (H := H')).mpr rfl
theorem pc_str {b : Str} : Post C O H H' .c (.str b) (.str b) := (rp_str (C := C) (O := O) (H := H')).mpr rfl
theorem pc_non : Post C O H H' .c .non .non := (rp_non (C := C) (O := O) (H := H')).mpr rfl
end
theorem rt_clean {C : DC} {O : Addr → Prop} {H : Hp} {d : D} {a : Addr} (hn : ¬ O a) (h : RpT C (fun b => O b ∨ b = a) H d (.ref a)) : Rp C O H d (.ref a) := by
  have h := h.mono (O' := O) fun _ z => .inl z
  cases d <;> first
    | exact h
    | (obtain ⟨b, xs, e, r⟩ := h; cases e; unfold Rp; exact ⟨_, xs, rfl, hn, r⟩)
theorem ON.new {C : DC} {O : Addr → Prop} {H : Hp} (o : ON C O H) {a : Addr} (h : H a = none) : ¬ O a := fun z => by
  obtain ⟨⟨u, q, _⟩, _⟩ := o a z
  rw [h] at q; cases q
theorem Post.toT {C : DC} {O : Addr → Prop} {H H' : Hp} (o : ON C O H) : ∀ {fl : Fl} {d : D} {v : V}, Post C O H H' fl d v → RpT C O H' d v
  | .n, _, _, ⟨a, e, hn, r⟩ => by subst e; exact r.mono fun _ z => .inl z
  | .c, _, _, r => Rp.top r
  | .t, _, _, r => r
theorem Post.toC {C : DC} {O : Addr → Prop} {H H' : Hp} (o : ON C O H) : ∀ {fl : Fl} {d : D} {v : V}, fl ≠ .t → Post C O H H' fl d v → Rp C O H' d v
  | .n, _, _, _, ⟨a, e, hn, r⟩ => by subst e; exact rt_clean (o.new hn) r
  | .c, _, _, _, r => r
  | .t, _, _, h, r => absurd rfl h

section
variable {C : DC} {O : Addr → Prop} {H : Hp} {v : V} {ds : List D}
theorem rt_bl {b : Bool} (h : RpT C O H (.bl b) v) : v = .bl b := rp_bl.mp (show Rp C O H _ v from h)
theorem rt_int {b : Int} (h : RpT C O H (.int b) v) : v = .int b := rp_int.mp (show Rp C O H _ v from h)
theorem rt_str {b : Str} (h : RpT C O H (.str b) v) : v = .str b := rp_str.mp (show Rp C O H _ v from h)
theorem rt_non (h : RpT C O H .non v) : v = .non := rp_non.mp (show Rp C O H _ v from h)
theorem rt_tup (h : RpT C O H (.tup ds) v) : ∃ a xs, v = .ref a ∧ TupR C.K H a xs ∧ RpL C O H ds xs := rp_tup.mp (show Rp C O H _ v from h)
theorem rt_lst (h : RpT C O H (.lst ds) v) : ∃ a xs, v = .ref a ∧ ¬ C.Spc a ∧ H a = some (.lst xs) ∧ RpL C O H ds xs := h
end

def liftE (B : BX) (fl : Fl) (t : WE) : TE := fun σ H R => ∃ ρ α P, EnvOk B α σ H ρ ∧ t ρ P ∧
  ∀ d v H', P d → GI B.C H' → Ext B.C H H' → Post B.C (Own B.S0 ρ α) H H' fl d v → R v H'
def liftT (B : BX) (t : WT) : TT := fun σ H R => ∃ ρ α P, EnvOk B α σ H ρ ∧ t ρ P ∧ ∀ b H', P b → GI B.C H' → Ext B.C H H' → R b H'
def liftA (B : BX) (t : WA) : TA := fun σ H R => ∃ ρ α P, EnvOk B α σ H ρ ∧ t ρ P ∧
  ∀ ds vs H', P ds → GI B.C H' → Ext B.C H H' → RpL B.C (Own B.S0 ρ α) H' ds vs → R vs H'
/-- arguments whose roots may be owned -/
def RpTL (C : DC) (O : Addr → Prop) (H : Hp) : List D → List V → Prop
  | [], vs => vs = []
  | d :: ds, vs => ∃ v ws, vs = v :: ws ∧ RpT C O H d v ∧ RpTL C O H ds ws
def liftB (B : BX) (t : WA) : TA := fun σ H R => ∃ ρ α P, EnvOk B α σ H ρ ∧ t ρ P ∧
  ∀ ds vs H', P ds → GI B.C H' → Ext B.C H H' → RpTL B.C (Own B.S0 ρ α) H' ds vs → R vs H'
theorem RpTL.ext {C : DC} {O : Addr → Prop} {H H' : Hp} (g : GI C H) (e : Ext C H H') : ∀ {ds : List D} {vs : List V}, RpTL C O H ds vs → RpTL C O H' ds vs
  | [], _, h => h
  | _ :: _, _, ⟨v, ws, q, r, t⟩ => ⟨v, ws, q, r.ext g e, RpTL.ext g e t⟩

section
variable {X : Cx} {B : BX} {e a b : Expr} {es : List Expr} {pos : Pos} {fl : Fl}
theorem _root_.L2.PE.weak {t t' : TE} (h : PE X e t) (w : ∀ σ H Q, t' σ H Q → t σ H Q) : PE X e t' := ⟨fun pins s σ H Q I hw => h.run pins s σ H Q I (w _ _ _ hw)⟩
theorem _root_.L2.PT.weak {t t' : TT} (h : PT X e t) (w : ∀ σ H Q, t' σ H Q → t σ H Q) : PT X e t' := ⟨fun pins s σ H Q I hw => h.run pins s σ H Q I (w _ _ _ hw)⟩
theorem _root_.L2.PW.weak {t t' : TT} (h : PW X e t) (w : ∀ σ H Q, t' σ H Q → t σ H Q) : PW X e t' := ⟨fun wh pins s σ H Q I hw => h.run wh pins s σ H Q I (w _ _ _ hw)⟩
theorem _root_.L2.PA.weak {t t' : TA} (h : PA X es t) (w : ∀ σ H Q, t' σ H Q → t σ H Q) : PA X es t' := ⟨fun p pins s σ H Q I hw => h.run p pins s σ H Q I (w _ _ _ hw)⟩
theorem _root_.L2.PS.weak {st : Stmt} {t t' : TS} (h : PS X st t) (w : ∀ D σ H, t' D σ H → t D σ H) : PS X st t' := ⟨fun pins s σ H D I hw => h.run pins s σ H D I (w _ _ _ hw)⟩
theorem _root_.L2.PSs.weak {st : List Stmt} {t t' : TS} (h : PSs X st t) (w : ∀ D σ H, t' D σ H → t D σ H) : PSs X st t' := ⟨fun pins s σ H D I hw => h.run pins s σ H D I (w _ _ _ hw)⟩
theorem _root_.L2.PI.weak {tg : Expr} {t t' : TI} (h : PI X tg e t) (w : ∀ σ H Q, t' σ H Q → t σ H Q) : PI X tg e t' := ⟨fun pins s σ H Q I hw => h.run pins s σ H Q I (w _ _ _ hw)⟩
theorem _root_.L2.PG.weak {t t' : TG} (h : PG X e t) (w : ∀ v σ H Q, t' v σ H Q → t v σ H Q) : PG X e t' := ⟨fun pins s σ H v u Q I r hw => h.run pins s σ H v u Q I r (w _ _ _ _ hw)⟩
theorem _root_.L2.PE.toT {t : WE} (h : PE X e (liftE B fl t)) : PE X e (liftE B .t t) := h.weak fun σ H R ⟨ρ, α, P, E, hw, post⟩ =>
  ⟨ρ, α, P, E, hw, fun d v H' hp g ex r => post d v H' hp g ex (Post.toT E.on r)⟩
theorem _root_.L2.PE.toC {t : WE} (h : PE X e (liftE B fl t)) (hf : fl ≠ .t := by intro z; cases z) : PE X e (liftE B .c t) := h.weak fun σ H R ⟨ρ, α, P, E, hw, post⟩ =>
  ⟨ρ, α, P, E, hw, fun d v H' hp g ex r => post d v H' hp g ex (Post.toC E.on hf r)⟩

/-! ### names, constants -/
def wVar (i : Nat) : WE := fun ρ Q => match ρ[i]? with
  | some (some (.dat d)) => Q d
  | _ => False
def wVarO (i : Nat) : WE := fun ρ Q => match ρ[i]? with
  | some (some (.dat d)) => Q d
  | some (some (.own d)) => Q d
  | _ => False
def wC (d : D) : WE := fun _ Q => Q d
theorem je_var (i : Nat) {x : Str} (h : PE X (.Name x pos) (tVar i)) : PE X (.Name x pos) (liftE B .c (wVar i)) := h.weak fun σ H R ⟨ρ, α, P, E, hw, post⟩ => by
  unfold wVar at hw
  cases hr : ρ[i]? with
  | none => rw [hr] at hw; exact hw.elim
  | some o =>
    rw [hr] at hw
    cases o with
    | none => exact hw.elim
    | some s =>
      cases s with
      | own d => exact hw.elim
      | dat d =>
        obtain ⟨v, hv, r⟩ := E.slot i _ hr
        exact ⟨v, hv, post d v H hw E.gi Ext.refl r⟩
theorem je_varO (i : Nat) {x : Str} (h : PE X (.Name x pos) (tVar i)) : PE X (.Name x pos) (liftE B .t (wVarO i)) := h.weak fun σ H R ⟨ρ, α, P, E, hw, post⟩ => by
  unfold wVarO at hw
  cases hr : ρ[i]? with
  | none => rw [hr] at hw; exact hw.elim
  | some o =>
    rw [hr] at hw
    cases o with
    | none => exact hw.elim
    | some s =>
      cases s with
      | own d =>
        obtain ⟨v, hv, _, _, r⟩ := E.slot i _ hr
        exact ⟨v, hv, post d v H hw E.gi Ext.refl r⟩
      | dat d =>
        obtain ⟨v, hv, r⟩ := E.slot i _ hr
        exact ⟨v, hv, post d v H hw E.gi Ext.refl (Rp.top r)⟩
/-- a value that stands for d in every heap -/
theorem je_const {v : V} {d : D} (h : PE X e (tC v)) (hr : ∀ O H, Rp B.C O H d v) : PE X e (liftE B .c (wC d)) := h.weak fun σ H R ⟨ρ, α, P, E, hw, post⟩ =>
  post d v H hw E.gi Ext.refl (hr _ _)
theorem je_int {i j} : PE X (.Constant (.int i) j pos) (liftE B .c (wC (.int i))) := je_const pe_int fun _ _ => rp_int.mpr rfl
theorem je_bl {b j} : PE X (.Constant (.bool b) j pos) (liftE B .c (wC (.bl b))) := je_const pe_bl fun _ _ => rp_bl.mpr rfl
theorem je_non {j} : PE X (.Constant .none j pos) (liftE B .c (wC .non)) := je_const pe_non fun _ _ => rp_non.mpr rfl
theorem je_str {x j} : PE X (.Constant (.str x) j pos) (liftE B .c (wC (.str x))) := je_const pe_str fun _ _ => rp_str.mpr rfl

/-! ### operations on two values -/
abbrev D2 := D → D → (D → Prop) → Prop
def rD2 (C : DC) (fl : Fl) (op : D2) : R2 := fun x y H R => ∃ O d e P, GI C H ∧ ON C O H ∧ RpT C O H d x ∧ RpT C O H e y ∧ op d e P ∧
  ∀ r v H', P r → GI C H' → Ext C H H' → Post C O H H' fl r v → R v H'
def wBin (op : D2) (ta tb : WE) : WE := fun ρ Q => ta ρ fun d => tb ρ fun e => op d e Q
theorem Post.before {C : DC} {O : Addr → Prop} {H0 H H' : Hp} (g : GI C H) (e : Ext C H0 H) {fl : Fl} {d : D} {v : V} (h : Post C O H H' fl d v) : Post C O H0 H' fl d v := by
  cases fl with
  | c => exact h
  | t => exact h
  | n =>
    obtain ⟨a, e1, hn, r⟩ := h
    refine ⟨a, e1, ?_, r⟩
    cases q : H0 a with
    | none => rfl
    | some o =>
      by_cases s : C.Spc a
      · exact absurd hn (g.some s)
      · rw [e a o q s] at hn; cases hn
theorem je_op {op : Operator} {d2 : D2} {ta tb : WE} {f1 f2 : Fl} (ho : OpR X (binaryOp op) (rD2 B.C fl d2)) (ha : PE X a (liftE B f1 ta)) (hb : PE X b (liftE B f2 tb)) : PE X (.BinOp a op b pos) (liftE B fl (wBin d2 ta tb)) :=
  (pe_op ho ha.toT hb.toT).weak fun σ H R ⟨ρ, α, P, E, hw, post⟩ =>
    ⟨ρ, α, _, E, hw, fun d x H1 hd g1 e1 r1 => ⟨ρ, α, _, E.ext g1 e1, hd, fun e y H2 he g2 e2 r2 =>
      ⟨_, d, e, P, g2, (E.ext g1 e1).on.ext e2, r1.ext g1 e2, r2, he, fun r v H' hr g3 e3 rr => post r v H' hr g3 (e1.trans (e2.trans e3)) (rr.before g2 (e1.trans e2))⟩⟩⟩
theorem je_cmp {op : CmpOp} {d2 : D2} {ta tb : WE} {f1 f2 : Fl} (ho : OpR X (compareOp op) (rD2 B.C .c d2)) (ha : PE X a (liftE B f1 ta)) (hb : PE X b (liftE B f2 tb)) (hm : behindInMarks op b = false) : PE X (.Compare a [op] [b] pos) (liftE B .c (wBin d2 ta tb)) :=
  (pe_cmpR ho ha.toT hb.toT hm).weak fun σ H R ⟨ρ, α, P, E, hw, post⟩ =>
    ⟨ρ, α, _, E, hw, fun d x H1 hd g1 e1 r1 => ⟨ρ, α, _, E.ext g1 e1, hd, fun e y H2 he g2 e2 r2 =>
      ⟨_, d, e, P, g2, (E.ext g1 e1).on.ext e2, r1.ext g1 e2, r2, he, fun r v H' hr g3 e3 rr => post r v H' hr g3 (e1.trans (e2.trans e3)) (rr.before g2 (e1.trans e2))⟩⟩⟩
/-- a comparison as a test -/
def wTest (t : WE) : WT := fun ρ Q => t ρ fun d => match d with
  | .bl b => Q b
  | _ => False
theorem jt_of {t : WE} {tt : TT} (h : PT X e tt) (hw : ∀ σ H R, (∃ ρ α P, EnvOk B α σ H ρ ∧ t ρ P ∧ ∀ d v H', P d → GI B.C H' → Ext B.C H H' → Post B.C (Own B.S0 ρ α) H H' .t d v → ∃ k, v = .bl k ∧ R k H') → tt σ H R) : PT X e (liftT B (wTest t)) :=
  h.weak fun σ H R ⟨ρ, α, P, E, hw', post⟩ => hw σ H R ⟨ρ, α, _, E, hw', fun d v H' hd g ex r => by
    cases d <;> first
      | exact hd.elim
      | exact ⟨_, rt_bl r.rt, post _ H' hd g ex⟩⟩
theorem jt_cmp {op : CmpOp} {d2 : D2} {ta tb : WE} {f1 f2 : Fl} (ho : OpR X (compareOp op) (rD2 B.C .c d2)) (ha : PE X a (liftE B f1 ta)) (hb : PE X b (liftE B f2 tb)) (hm : behindInMarks op b = false) : PT X (.Compare a [op] [b] pos) (liftT B (wTest (wBin d2 ta tb))) :=
  (pt_cmpR ho ha.toT hb.toT hm).weak fun σ H R ⟨ρ, α, P, E, hw, post⟩ =>
    ⟨ρ, α, _, E, hw, fun d x H1 hd g1 e1 r1 => ⟨ρ, α, _, E.ext g1 e1, hd, fun e y H2 he g2 e2 r2 =>
      ⟨_, d, e, _, g2, (E.ext g1 e1).on.ext e2, r1.ext g1 e2, r2, he, fun r v H' hr g3 e3 rr => by
        cases r <;> first
          | exact hr.elim
          | exact ⟨_, rp_bl.mp rr.rc, post _ H' hr g3 (e1.trans (e2.trans e3))⟩⟩⟩⟩
/-- an expression that gives a bool, as a test -/
theorem jt_val {t : WE} (h : PE X e (liftE B fl t)) (he : ∀ whole, isTrue e X.env whole = (do let v ← whole; standAt e.pos; holding [v] (truthy v)) := by intro _; rfl) : PT X e (liftT B (wTest t)) :=
  (pt_val h.toT he).weak fun σ H R ⟨ρ, α, P, E, hw, post⟩ => ⟨ρ, α, _, E, hw, fun d v H' hd g ex r => by
    cases d <;> first
      | exact hd.elim
      | exact ⟨_, rt_bl r.rt, post _ H' hd g ex⟩⟩

/-! ### and, or, not, if -/
variable {rest : List Expr}
def wAnd (t u : WT) : WT := fun ρ Q => t ρ fun b => match b with
  | true => u ρ Q
  | false => Q false
def wOr (t u : WT) : WT := fun ρ Q => t ρ fun b => match b with
  | true => Q true
  | false => u ρ Q
def wNot (t : WT) : WT := fun ρ Q => t ρ fun b => Q (!b)
theorem jw_and1 {t : WT} (h : PT X a (liftT B t)) : PW X (.BoolOp .And [a] pos) (liftT B t) := pw_and1 h
theorem jw_or1 {t : WT} (h : PT X a (liftT B t)) : PW X (.BoolOp .Or [a] pos) (liftT B t) := pw_or1 h
theorem jw_and {t u : WT} (h : PT X a (liftT B t)) (k : PW X (.BoolOp .And (b :: rest) pos) (liftT B u)) : PW X (.BoolOp .And (a :: b :: rest) pos) (liftT B (wAnd t u)) :=
  (pw_and h k).weak fun σ H R ⟨ρ, α, P, E, hw, post⟩ => ⟨ρ, α, _, E, hw, fun c H1 hc g1 e1 => by
    cases c with
    | true => exact iteT ⟨ρ, α, P, E.ext g1 e1, hc, fun d H2 hd g2 e2 => post d H2 hd g2 (e1.trans e2)⟩
    | false => exact iteF (post false H1 hc g1 e1)⟩
theorem jw_or {t u : WT} (h : PT X a (liftT B t)) (k : PW X (.BoolOp .Or (b :: rest) pos) (liftT B u)) : PW X (.BoolOp .Or (a :: b :: rest) pos) (liftT B (wOr t u)) :=
  (pw_or h k).weak fun σ H R ⟨ρ, α, P, E, hw, post⟩ => ⟨ρ, α, _, E, hw, fun c H1 hc g1 e1 => by
    cases c with
    | true => exact iteT (post true H1 hc g1 e1)
    | false => exact iteF ⟨ρ, α, P, E.ext g1 e1, hc, fun d H2 hd g2 e2 => post d H2 hd g2 (e1.trans e2)⟩⟩
theorem jt_not {t : WT} (h : PT X a (liftT B t)) : PT X (.UnaryOp .Not a pos) (liftT B (wNot t)) :=
  (pt_not h).weak fun σ H R ⟨ρ, α, P, E, hw, post⟩ => ⟨ρ, α, _, E, hw, fun c H1 hc g1 e1 => post _ H1 hc g1 e1⟩
/-- as values (bools) -/
def wAndV (t u : WE) : WE := fun ρ Q => t ρ fun d => match d with
  | .bl true => u ρ Q
  | .bl false => Q (.bl false)
  | _ => False
def wOrV (t u : WE) : WE := fun ρ Q => t ρ fun d => match d with
  | .bl true => Q (.bl true)
  | .bl false => u ρ Q
  | _ => False
def wNotV (t : WE) : WE := fun ρ Q => t ρ fun d => match d with
  | .bl b => Q (.bl !b)
  | _ => False
theorem je_one {op} {t : WE} (h : PE X a (liftE B fl t)) : PE X (.BoolOp op [a] pos) (liftE B fl t) := pe_one h
theorem je_and {t u : WE} {f1 f2 : Fl} (h : PE X a (liftE B f1 t)) (k : PE X (.BoolOp .And (b :: rest) pos) (liftE B f2 u)) (hf : f2 ≠ .t := by intro z; cases z) : PE X (.BoolOp .And (a :: b :: rest) pos) (liftE B .c (wAndV t u)) :=
  (pe_and h.toT (k.toC hf)).weak fun σ H R ⟨ρ, α, P, E, hw, post⟩ => ⟨ρ, α, _, E, hw, fun d v H1 hd g1 e1 r1 => by
    cases d <;> first
      | exact hd.elim
      | (rename_i c; refine ⟨c, rt_bl r1.rt, ?_⟩; cases c with
          | true => exact iteT ⟨ρ, α, P, E.ext g1 e1, hd, fun d v H2 hd g2 e2 r2 => post d v H2 hd g2 (e1.trans e2) r2⟩
          | false => exact iteF (post _ _ H1 hd g1 e1 pc_bl))⟩
theorem je_or {t u : WE} {f1 f2 : Fl} (h : PE X a (liftE B f1 t)) (k : PE X (.BoolOp .Or (b :: rest) pos) (liftE B f2 u)) (hf : f2 ≠ .t := by intro z; cases z) : PE X (.BoolOp .Or (a :: b :: rest) pos) (liftE B .c (wOrV t u)) :=
  (pe_or h.toT (k.toC hf)).weak fun σ H R ⟨ρ, α, P, E, hw, post⟩ => ⟨ρ, α, _, E, hw, fun d v H1 hd g1 e1 r1 => by
    cases d <;> first
      | exact hd.elim
      | (rename_i c; refine ⟨c, rt_bl r1.rt, ?_⟩; cases c with
          | true => exact iteT (post _ _ H1 hd g1 e1 pc_bl)
          | false => exact iteF ⟨ρ, α, P, E.ext g1 e1, hd, fun d v H2 hd g2 e2 r2 => post d v H2 hd g2 (e1.trans e2) r2⟩)⟩
theorem je_not {t : WE} (h : PE X a (liftE B fl t)) : PE X (.UnaryOp .Not a pos) (liftE B .c (wNotV t)) :=
  (pe_not h.toT).weak fun σ H R ⟨ρ, α, P, E, hw, post⟩ => ⟨ρ, α, _, E, hw, fun d v H1 hd g1 e1 r1 => by
    cases d <;> first
      | exact hd.elim
      | exact ⟨_, rt_bl r1.rt, post _ _ H1 hd g1 e1 pc_bl⟩⟩
def wIfE (c : WT) (t u : WE) : WE := fun ρ Q => c ρ fun b => match b with
  | true => t ρ Q
  | false => u ρ Q
theorem je_if {c : Expr} {tc : WT} {t u : WE} (hc : PT X c (liftT B tc)) (ha : PE X a (liftE B fl t)) (hb : PE X b (liftE B fl u)) : PE X (.IfExp c a b pos) (liftE B fl (wIfE tc t u)) :=
  (pe_ifExp hc ha hb).weak fun σ H R ⟨ρ, α, P, E, hw, post⟩ => ⟨ρ, α, _, E, hw, fun c H1 hc g1 e1 => by
    cases c with
    | true => exact iteT ⟨ρ, α, P, E.ext g1 e1, hc, fun d v H2 hd g2 e2 r2 => post d v H2 hd g2 (e1.trans e2) (r2.before g1 e1)⟩
    | false => exact iteF ⟨ρ, α, P, E.ext g1 e1, hc, fun d v H2 hd g2 e2 r2 => post d v H2 hd g2 (e1.trans e2) (r2.before g1 e1)⟩⟩

/-! ### argument lists -/
def wNil : WA := fun _ Q => Q []
def wCons (t : WE) (u : WA) : WA := fun ρ Q => t ρ fun d => u ρ fun ds => Q (d :: ds)
theorem ja_nil : PA X [] (liftA B wNil) := pa_nil.weak fun σ H R ⟨ρ, α, P, E, hw, post⟩ => post [] [] H hw E.gi Ext.refl RpL.nil
theorem ja_cons {t : WE} {u : WA} (h : PE X e (liftE B fl t)) (k : PA X es (liftA B u)) (hf : fl ≠ .t := by intro z; cases z) (hs : starEach (e :: es) X.env = (false, eval e X.env) :: starEach es X.env := by rfl) : PA X (e :: es) (liftA B (wCons t u)) :=
  (pa_cons (h.toC hf) k hs).weak fun σ H R ⟨ρ, α, P, E, hw, post⟩ => ⟨ρ, α, _, E, hw, fun d v H1 hd g1 e1 r1 => ⟨ρ, α, _, E.ext g1 e1, hd, fun ds vs H2 hds g2 e2 r2 =>
    post (d :: ds) (v :: vs) H2 hds g2 (e1.trans e2) (RpL.cons (Rp.ext g1 e2 r1) r2)⟩⟩
theorem jb_nil : PA X [] (liftB B wNil) := pa_nil.weak fun σ H R ⟨ρ, α, P, E, hw, post⟩ => post [] [] H hw E.gi Ext.refl rfl
theorem jb_cons {t : WE} {u : WA} (h : PE X e (liftE B fl t)) (k : PA X es (liftB B u)) (hs : starEach (e :: es) X.env = (false, eval e X.env) :: starEach es X.env := by rfl) : PA X (e :: es) (liftB B (wCons t u)) :=
  (pa_cons h.toT k hs).weak fun σ H R ⟨ρ, α, P, E, hw, post⟩ => ⟨ρ, α, _, E, hw, fun d v H1 hd g1 e1 r1 => ⟨ρ, α, _, E.ext g1 e1, hd, fun ds vs H2 hds g2 e2 r2 =>
    post (d :: ds) (v :: vs) H2 hds g2 (e1.trans e2) ⟨v, vs, rfl, RpT.ext g1 e2 r1, r2⟩⟩⟩
/-- *e among the arguments -/
def wStar (t : WE) (u : WA) : WA := fun ρ Q => t ρ fun d => match d with
  | .tup xs => u ρ fun ds => Q (xs ++ ds)
  | .lst xs => u ρ fun ds => Q (xs ++ ds)
  | _ => False
theorem ja_star {t : WE} {u : WA} {p : Pos} (hK : X.K = B.C.K) (h : PE X e (liftE B fl t)) (k : PA X es (liftA B u)) (hs : starEach (.Starred e p :: es) X.env = (true, eval e X.env) :: starEach es X.env := by rfl) : PA X (.Starred e p :: es) (liftA B (wStar t u)) :=
  (StX.pa_star h.toT k hs).weak fun σ H R ⟨ρ, α, P, E, hw, post⟩ => ⟨ρ, α, _, E, hw, fun d v H1 hd g1 e1 r1 => by
    have fin : ∀ (xs : List D) (ys : List V), RpL B.C (Own B.S0 ρ α) H1 xs ys → u ρ (fun ds => P (xs ++ ds)) → liftA B u σ H1 (fun vs H2 => R (ys ++ vs) H2) := fun xs ys r q =>
      ⟨ρ, α, _, E.ext g1 e1, q, fun ds vs H2 hds g2 e2 r2 => post _ _ H2 hds g2 (e1.trans e2) ((RpL.ext g1 e2 r).app r2)⟩
    cases d <;> first
      | exact hd.elim
      | (obtain ⟨a, xs, e, q, r⟩ := rt_tup r1.rt; exact ⟨a, xs, e, .inl (by rw [hK]; exact q.sq), fin _ _ r hd⟩)
      | (obtain ⟨a, xs, e, _, q, r⟩ := rt_lst r1.rt; exact ⟨a, xs, e, .inr (SqL.of q), fin _ _ r hd⟩)⟩

/-! ### displays -/
theorem pe_tupF {x1} {t : TA} (h : PA X es t) : PE X (.Tuple es x1 pos) (fun σ H Q => t σ H fun xs H1 => xs.length ≤ sizeLine ∧ ∀ p o, o.dict = none → H1 p = none → Q (.ref p) (upd H1 p (.frz o (.tup xs)))) := by
  refine ⟨fun pins s σ H Q I hq => ?_⟩
  refine wpAny_Tuple_spliced (thn (h.run pos pins s σ H _ I hq) fun us s1 ⟨xs, H1, I1, r, z, q⟩ => ⟨by rw [← r.length]; exact z, ?_⟩)
  have hf : H1 s1.heap.objs.size = none := I1.hok.fresh (Nat.le_refl _)
  refine ⟨.ref s1.heap.objs.size, upd H1 s1.heap.objs.size (.frz { cls := .type "tuple", data := .seq us.toArray } (.tup xs)), I1.laid (t' := s1.toks) (fun b u e => Heap.get?_push_of_some _ e) (Nat.le_refl _) ?_, rfl, q _ _ rfl hf⟩
  exact ⟨Heap.get?_push_size _ rfl, z, us, r, ⟨_, Heap.get?_push_size _ rfl, rfl, _, rfl⟩⟩
theorem rp_newtup {C : DC} {O : Addr → Prop} {H : Hp} {p : Addr} {o : Obj} {ds : List D} {xs : List V} (g : GI C H) (hn : H p = none) (ho : o.dict = none) (r : RpL C O H ds xs) : Rp C O (upd H p (.frz o (.tup xs))) (.tup ds) (.ref p) :=
  rp_tup.mpr ⟨p, xs, rfl, .inl ⟨o, upd_same, ho⟩, RpL.ext g (Ext.new hn) r⟩
theorem rt_newlst {C : DC} {O : Addr → Prop} {H : Hp} {p : Addr} {ds : List D} {xs : List V} (g : GI C H) (hn : H p = none) (r : RpL C O H ds xs) : RpT C (fun b => O b ∨ b = p) (upd H p (.lst xs)) (.lst ds) (.ref p) :=
  ⟨p, xs, rfl, g.notNew hn, upd_same, RpL.ext g (Ext.new hn) (RpL.avoid hn r)⟩
def wTup (t : WA) : WE := fun ρ Q => t ρ fun ds => ds.length ≤ sizeLine ∧ Q (.tup ds)
def wLst (t : WA) : WE := fun ρ Q => t ρ fun ds => ds.length ≤ sizeLine ∧ Q (.lst ds)
theorem je_tup {t : WA} {x1} (h : PA X es (liftA B t)) : PE X (.Tuple es x1 pos) (liftE B .c (wTup t)) :=
  (pe_tupF h).weak fun σ H R ⟨ρ, α, P, E, hw, post⟩ => ⟨ρ, α, _, E, hw, fun ds vs H1 hds g1 e1 r1 => ⟨by rw [r1.length]; exact hds.1, fun p o ho hn =>
    post _ _ _ hds.2 (g1.new hn) (e1.trans (Ext.new hn)) (rp_newtup g1 hn ho r1)⟩⟩
theorem je_lst {t : WA} (h : PA X es (liftA B t)) : PE X (.List es pos) (liftE B .n (wLst t)) :=
  (pe_lst h).weak fun σ H R ⟨ρ, α, P, E, hw, post⟩ => ⟨ρ, α, _, E, hw, fun ds vs H1 hds g1 e1 r1 => ⟨by rw [r1.length]; exact hds.1, fun p hn =>
    post _ _ _ hds.2 (g1.new hn) (e1.trans (Ext.new hn)) (Post.before (H := H1) g1 e1 ⟨p, rfl, hn, rt_newlst g1 hn r1⟩)⟩⟩
end
end DL

set_option Elab.async false
set_option linter.all false
set_option maxRecDepth 100000
namespace DL
open PySem PySem.Spec PyProof.Rows L2 NdefX LamX

structure SPost (B : BX) (ρ : Ev) (α : Nat → Addr) (H : Hp) (E : WEnds) (D : Ends) : Prop where
  nx : ∀ ρ' α' σ' H', E.nx ρ' → EnvOk B α' σ' H' ρ' → Rel B.C (OwnS ρ α) H (OwnS ρ' α') H' → D.nx σ' H'
  bk : ∀ ρ' α' σ' H', E.bk ρ' → EnvOk B α' σ' H' ρ' → Rel B.C (OwnS ρ α) H (OwnS ρ' α') H' → D.bk σ' H'
  ct : ∀ ρ' α' σ' H', E.ct ρ' → EnvOk B α' σ' H' ρ' → Rel B.C (OwnS ρ α) H (OwnS ρ' α') H' → D.ct σ' H'
  rt : ∀ d v H', E.rt d → GI B.C H' → Ext B.C B.H0 H' → Rp B.C B.S0 H' d v → D.rt v H'
def liftS (B : BX) (t : WS) : TS := fun D σ H => ∃ ρ α E, EnvOk B α σ H ρ ∧ t E ρ ∧ SPost B ρ α H E D
theorem SPost.move {B : BX} {ρ ρ1 : Ev} {α α1 : Nat → Addr} {H H1 : Hp} {E : WEnds} {D : Ends} (p : SPost B ρ α H E D) (g : GI B.C H1) (r : Rel B.C (OwnS ρ α) H (OwnS ρ1 α1) H1) : SPost B ρ1 α1 H1 E D :=
  ⟨fun ρ' α' σ' H' h ok q => p.nx ρ' α' σ' H' h ok (r.trans g q), fun ρ' α' σ' H' h ok q => p.bk ρ' α' σ' H' h ok (r.trans g q), fun ρ' α' σ' H' h ok q => p.ct ρ' α' σ' H' h ok (r.trans g q), p.rt⟩
theorem EnvOk.ext0 {B : BX} {α : Nat → Addr} {σ : L2.St} {H : Hp} {ρ : Ev} (E : EnvOk B α σ H ρ) : Ext B.C B.H0 H := fun a o h s => E.rel.keep a o h (fun z => z) s

section
variable {X : Cx} {B : BX} {st : Stmt} {rest : List Stmt} {e : Expr} {pos : Pos} {fl : Fl}
def wNext : WS := fun E ρ => E.nx ρ
def wSeq (t u : WS) : WS := fun E ρ => t { E with nx := u E } ρ
theorem js_nil : PSs X [] (liftS B wNext) := pss_nil.weak fun D σ H ⟨ρ, α, E, ok, hw, p⟩ => p.nx ρ α σ H hw ok Rel.refl
theorem js_cons {t u : WS} (h : PS X st (liftS B t)) (k : PSs X rest (liftS B u)) : PSs X (st :: rest) (liftS B (wSeq t u)) :=
  (pss_cons h k).weak fun D σ H ⟨ρ, α, E, ok, hw, p⟩ => ⟨ρ, α, { E with nx := u E }, ok, hw,
    ⟨fun ρ' α' σ' H' h ok' r => ⟨ρ', α', E, ok', h, p.move ok'.gi r⟩, p.bk, p.ct, p.rt⟩⟩
theorem js_one {t : WS} (h : PS X st (liftS B t)) : PSs X [st] (liftS B t) := pss_one h
theorem js_pass : PS X (.Pass pos) (liftS B wNext) := ps_pass.weak fun D σ H ⟨ρ, α, E, ok, hw, p⟩ => p.nx ρ α σ H hw ok Rel.refl
def wBreak : WS := fun E ρ => E.bk ρ
def wCont : WS := fun E ρ => E.ct ρ
theorem js_break : PS X (.Break pos) (liftS B wBreak) := ps_break.weak fun D σ H ⟨ρ, α, E, ok, hw, p⟩ => p.bk ρ α σ H hw ok Rel.refl
theorem js_cont : PS X (.Continue pos) (liftS B wCont) := ps_continue.weak fun D σ H ⟨ρ, α, E, ok, hw, p⟩ => p.ct ρ α σ H hw ok Rel.refl
def wNever : WS := fun _ _ => False
theorem js_never : PS X st (liftS B wNever) := ps_never.weak fun D σ H ⟨ρ, α, E, ok, hw, p⟩ => hw
/-- an expression whose value is dropped -/
def wDrop (t : WE) : WS := fun E ρ => t ρ fun _ => E.nx ρ
theorem js_expr {t : WE} (h : PE X e (liftE B fl t)) (hs : swapsWith e none pos.line X.env = pure false := by rfl) : PS X (.Expr e pos) (liftS B (wDrop t)) :=
  (ps_expr h hs).weak fun D σ H ⟨ρ, α, E, ok, hw, p⟩ => ⟨ρ, α, _, ok, hw, fun d v H' hd g ex r => p.nx ρ α σ H' hd (ok.ext g ex) (.of_ext ex)⟩
def wRet (t : WE) : WS := fun E ρ => t ρ E.rt
theorem js_ret {t : WE} (h : PE X e (liftE B fl t)) (hf : fl ≠ .t := by intro z; cases z) : PS X (.Return (some e) pos) (liftS B (wRet t)) :=
  (ps_ret (h.toC hf)).weak fun D σ H ⟨ρ, α, E, ok, hw, p⟩ => ⟨ρ, α, _, ok, hw, fun d v H' hd g ex r => p.rt d v H' hd g (ok.ext0.trans ex) (Rp.mono (fun a z => .inl z) (show Rp _ _ _ d v from r))⟩
def wRetN : WS := fun E _ => E.rt .non
theorem js_retN : PS X (.Return none pos) (liftS B wRetN) := ps_retN.weak fun D σ H ⟨ρ, α, E, ok, hw, p⟩ => p.rt .non .non H hw ok.gi ok.ext0 (rp_non.mpr rfl)
/-- return x, x an owned name -/
theorem js_retO {i : Nat} (h : PE X e (tVar i)) : PS X (.Return (some e) pos) (liftS B (wRet (wVarO i))) :=
  (ps_ret h).weak fun D σ H ⟨ρ, α, E, ok, hw, p⟩ => by
    have hw : wVarO i ρ E.rt := hw
    unfold wVarO at hw
    cases hr : ρ[i]? with
    | none => rw [hr] at hw; exact hw.elim
    | some o =>
      rw [hr] at hw
      cases o with
      | none => exact hw.elim
      | some s =>
        cases s with
        | own d =>
          have ok2 := ok.release hr
          have hl : i < ρ.length := (List.getElem?_eq_some_iff.mp hr).1
          obtain ⟨v, hv, r⟩ := slot_dat ok2 (i := i) (d := d) (List.getElem?_set_self hl)
          exact ⟨v, hv, p.rt d v H hw ok.gi ok.ext0 (Rp.mono (fun a z => .inl z) r)⟩
        | dat d =>
          obtain ⟨v, hv, r⟩ := slot_dat ok hr
          exact ⟨v, hv, p.rt d v H hw ok.gi ok.ext0 (Rp.mono (fun a z => .inl z) r)⟩
def wIf (c : WT) (t u : WS) : WS := fun E ρ => c ρ fun b => match b with
  | true => t E ρ
  | false => u E ρ
theorem js_if {c : Expr} {a b : List Stmt} {tc : WT} {t u : WS} (hc : PT X c (liftT B tc)) (ha : PSs X a (liftS B t)) (hb : PSs X b (liftS B u)) : PS X (.If c a b pos) (liftS B (wIf tc t u)) :=
  (ps_if hc ha hb).weak fun D σ H ⟨ρ, α, E, ok, hw, p⟩ => ⟨ρ, α, _, ok, hw, fun c H1 hc g1 e1 => by
    cases c with
    | true => exact iteT ⟨ρ, α, E, ok.ext g1 e1, hc, p.move g1 (.of_ext e1)⟩
    | false => exact iteF ⟨ρ, α, E, ok.ext g1 e1, hc, p.move g1 (.of_ext e1)⟩⟩

/-! ### targets -/
abbrev WG := D → Ev → (Ev → Prop) → Prop
abbrev WGs := List D → Ev → (Ev → Prop) → Prop
/-- the slots that a target stores into -/
structure GPost (B : BX) (js : List Nat) (α : Nat → Addr) (σ σ' : L2.St) (H : Hp) (ρ ρ' : Ev) : Prop where
  ok : EnvOk B α σ' H ρ'
  own : ∀ a, OwnS ρ' α a → OwnS ρ α a
  out : ∀ j, j ∉ js → ρ'[j]? = ρ[j]?
  wip : ∀ vs : List Nat, (∀ j ∈ js, j ∈ vs) → wipe σ' vs = wipe σ vs
def liftG (B : BX) (js : List Nat) (g : WG) : TG := fun v σ H K => ∃ ρ α d P, EnvOk B α σ H ρ ∧ Rp B.C (Own B.S0 ρ α) H d v ∧ g d ρ P ∧
  ∀ ρ' σ', P ρ' → GPost B js α σ σ' H ρ ρ' → K σ' H
def liftGs (B : BX) (js : List Nat) (g : WGs) : TGs := fun vs σ H K => ∃ ρ α ds P, EnvOk B α σ H ρ ∧ RpL B.C (Own B.S0 ρ α) H ds vs ∧ g ds ρ P ∧
  ∀ ρ' σ', P ρ' → GPost B js α σ σ' H ρ ρ' → K σ' H
theorem wipe_set {i : Nat} {u : Option V} : ∀ {vs : List Nat} {σ : L2.St}, i ∈ vs → wipe (σ.set i u) vs = wipe σ vs
  | [], _, h => by simp at h
  | v :: vs, σ, h => by
    unfold wipe
    by_cases e : i ∈ vs
    · rw [wipe_set e]
    · have hv : i = v := by
        rcases List.mem_cons.mp h with h | h
        · exact h
        · exact absurd h e
      subst hv
      have q : ∀ (ws : List Nat) (τ : L2.St), i ∉ ws → wipe (τ.set i u) ws = (wipe τ ws).set i u := by
        intro ws
        induction ws with
        | nil => intro τ _; rfl
        | cons w ws ih =>
          intro τ hn
          unfold wipe
          rw [ih τ fun z => hn (List.mem_cons_of_mem _ z), List.set_comm _ _ (fun z => hn (by rw [z]; exact List.mem_cons_self))]
      rw [q vs σ e, List.set_set]
def gN (i : Nat) : WG := fun d ρ P => P (ρ.set i (some (.dat d)))
def gsN : WGs := fun ds ρ P => ds = [] ∧ P ρ
def gsC (g : WG) (gs : WGs) : WGs := fun ds ρ P => match ds with
  | d :: r => g d ρ fun ρ1 => gs r ρ1 P
  | [] => False
def gT (n : Nat) (gs : WGs) : WG := fun d ρ P => match d with
  | .tup ds => ds.length = n ∧ gs ds ρ P
  | .par x y => 2 = n ∧ gs [x, y] ρ P
  | _ => False
theorem jg_name {i : Nat} {x : Str} (h : PG X (.Name x pos) (gName i)) : PG X (.Name x pos) (liftG B [i] (gN i)) := h.weak fun v σ H K ⟨ρ, α, d, P, ok, r, hw, p⟩ =>
  p _ _ hw ⟨ok.setDat r, fun a z => ownS_dat z, fun j hj => List.getElem?_set_ne (fun e => hj (by simp [e])), fun vs hv => wipe_set (hv i (by simp))⟩
theorem jgs_nil : PGs X [] (liftGs B [] gsN) := ⟨fun pins s σ H vs us Q I r ⟨ρ, α, ds, P, ok, hr, ⟨e, hw⟩, p⟩ => pgs_nil.run pins s σ H vs us Q I r (by
  subst e
  exact ⟨rl_nil.mp hr, p ρ σ hw ⟨ok, fun _ z => z, fun _ _ => rfl, fun _ _ => rfl⟩⟩)⟩
theorem jgs_cons {es : List Expr} {g : WG} {gs : WGs} {j1 j2 : List Nat} (h1 : PG X e (liftG B j1 g)) (h2 : PGs X es (liftGs B j2 gs)) (hs : (assignEach (e :: es) X.env).map (·.2) = assign e X.env :: (assignEach es X.env).map (·.2) := by rfl) : PGs X (e :: es) (liftGs B (j1 ++ j2) (gsC g gs)) :=
  ⟨fun pins s σ H vs us Q I r ⟨ρ, α, ds, P, ok, hr, hw, p⟩ => (pgs_cons h1 h2 hs).run pins s σ H vs us Q I r (by
    cases ds with
    | nil => exact False.elim hw
    | cons d ds =>
      obtain ⟨v, ws, rfl, rv, rs⟩ := rl_cons.mp hr
      exact ⟨v, ws, rfl, ρ, α, d, _, ok, rv, hw, fun ρ1 σ1 h1 q1 => ⟨ρ1, α, ds, P, q1.ok, RpL.mono (fun a z => z.elim .inl fun z => .inr (q1.own a z)) rs, h1, fun ρ2 σ2 q q2 => p ρ2 σ2 q
        ⟨q2.ok, fun a z => q1.own a (q2.own a z), fun j hj => (q2.out j fun z => hj (List.mem_append_right _ z)).trans (q1.out j fun z => hj (List.mem_append_left _ z)),
          fun vs hv => (q2.wip vs fun j z => hv j (List.mem_append_right _ z)).trans (q1.wip vs fun j z => hv j (List.mem_append_left _ z))⟩⟩⟩)⟩
theorem jg_tup {es : List Expr} {k n : Nat} {gs : WGs} {js : List Nat} (hK : X.K = B.C.K) (hc : X.calm = true) (h : PGs X es (liftGs B js gs)) (hn : (assignEach es X.env).length = n := by rfl) (hst : (assignEach es X.env).findIdx? (·.1) = none := by rfl) : PG X (.Tuple es k pos) (liftG B js (gT n gs)) :=
  (pg_tup hc h hn hst).weak fun v σ H K ⟨ρ, α, d, P, ok, r, hw, p⟩ => by
    cases d <;> first
      | exact False.elim hw
      | (obtain ⟨a, xs, e, q, r⟩ := rp_tup.mp r
         exact ⟨a, xs, e, by rw [hK]; exact q.sq, by rw [RpL.length r]; exact hw.1, ρ, α, _, P, ok, r, hw.2, p⟩)
      | (unfold Rp at r
         obtain ⟨a, x, y, e, q, r1, r2⟩ := r
         exact ⟨a, [x, y], e, by rw [hK]; exact q, hw.1, ρ, α, _, P, ok, RpL.cons r1 (RpL.cons r2 RpL.nil), hw.2, p⟩)

/-! ### assignments -/
def wAsg (t : WE) (g : WG) : WS := fun E ρ => t ρ fun d => g d ρ E.nx
theorem js_asg {t : WE} {tg : Expr} {g : WG} {js : List Nat} (h : PE X e (liftE B fl t)) (hg : PG X tg (liftG B js g)) (hf : fl ≠ .t := by intro z; cases z) (hs : swapsWithSole [tg] e pos.line X.env = pure false := by rfl) (hw : swappedStores [tg] e X.env = pure none := by rfl)
    (h1 : (assignEach [tg] X.env).map (·.2) = [assign tg X.env] := by rfl) : PS X (.Assign [tg] e pos) (liftS B (wAsg t g)) :=
  (ps_asg (h.toC hf) hg hs hw h1).weak fun D σ H ⟨ρ, α, E, ok, hw, p⟩ => ⟨ρ, α, _, ok, hw, fun d v H' hd g1 e1 r => ⟨ρ, α, d, E.nx, ok.ext g1 e1, r, hd, fun ρ' σ' h' q => p.nx ρ' α σ' H' h' q.ok ((Rel.of_ext e1).less q.own)⟩⟩
/-- name = e -/
theorem js_set {t : WE} {i : Nat} {st : Stmt} (h : ∀ te, PE X e te → PS X st (tAsg te (gName i))) (he : PE X e (liftE B fl t)) (hf : fl ≠ .t := by intro z; cases z) : PS X st (liftS B (wAsg t (gN i))) :=
  (h _ (he.toC hf)).weak fun D σ H ⟨ρ, α, E, ok, hw, p⟩ => ⟨ρ, α, _, ok, hw, fun d v H' hd g1 e1 r => p.nx _ α _ H' hd ((ok.ext g1 e1).setDat r) ((Rel.of_ext e1).less fun a z => ownS_dat z)⟩
/-- the same, the statement's own reading given -/
theorem js_setT {t : WE} {i : Nat} {st : Stmt} {te : TE} (h : PS X st (tAsg te (gName i))) (w : ∀ σ H R, liftE B fl t σ H R → te σ H R) (hf : fl ≠ .t) : PS X st (liftS B (wAsg t (gN i))) :=
  h.weak fun D σ H ⟨ρ, α, E, ok, hw, p⟩ => w σ H _ ⟨ρ, α, _, ok, hw, fun d v H' hd g1 e1 r => p.nx _ α _ H' hd ((ok.ext g1 e1).setDat (Post.toC ok.on hf r)) ((Rel.of_ext e1).less fun a z => ownS_dat z)⟩
def gO (i : Nat) : WG := fun d ρ P => OwnD d ∧ P (ρ.set i (some (.own d)))
theorem Rel.setOwn {B : BX} {α : Nat → Addr} {H H' : Hp} {ρ : Ev} {i : Nat} {d : D} {a : Addr} (ha : H a = none) (e : Ext B.C H H') :
    Rel B.C (OwnS ρ α) H (OwnS (ρ.set i (some (.own d))) (fun j => if j = i then a else α j)) H' := ⟨fun a o h _ s => e a o h s, fun b ⟨j, f, h1, h2⟩ => by
  have h2 : (if j = i then a else α j) = b := h2
  rcases getset h1 with ⟨rfl, q, _⟩ | ⟨hj, q⟩
  · rw [if_pos rfl] at h2; exact .inr (h2 ▸ ha)
  · rw [if_neg hj] at h2; exact .inl ⟨j, f, q, h2⟩⟩
/-- name = e, a new list or dict that is changed later -/
theorem js_own {t : WE} {i : Nat} {st : Stmt} (h : ∀ te, PE X e te → PS X st (tAsg te (gName i))) (he : PE X e (liftE B .n t)) : PS X st (liftS B (wAsg t (gO i))) :=
  (h _ he).weak fun D σ H ⟨ρ, α, E, ok, hw, p⟩ => ⟨ρ, α, _, ok, hw, fun d v H' hd g1 e1 ⟨a, ev, ha, r⟩ => by
    subst ev
    exact p.nx _ _ _ H' hd.2 (ok.setOwn ha g1 e1 hd.1 r) (Rel.setOwn ha e1)⟩
theorem js_ownT {t : WE} {i : Nat} {st : Stmt} {te : TE} (h : PS X st (tAsg te (gName i))) (w : ∀ σ H R, liftE B .n t σ H R → te σ H R) : PS X st (liftS B (wAsg t (gO i))) :=
  h.weak fun D σ H ⟨ρ, α, E, ok, hw, p⟩ => w σ H _ ⟨ρ, α, _, ok, hw, fun d v H' hd g1 e1 ⟨a, ev, ha, r⟩ => by
    subst ev
    exact p.nx _ _ _ H' hd.2 (ok.setOwn ha g1 e1 hd.1 r) (Rel.setOwn ha e1)⟩
/-- from here on the owned slot i is changed no more -/
def wRel (i : Nat) (t : WS) : WS := fun E ρ => match ρ[i]? with
  | some (some (.own d)) => t E (ρ.set i (some (.dat d)))
  | some (some (.dat _)) => t E ρ
  | _ => False
theorem js_rel (i : Nat) {sts : List Stmt} {t : WS} (h : PSs X sts (liftS B t)) : PSs X sts (liftS B (wRel i t)) := h.weak fun D σ H ⟨ρ, α, E, ok, hw, p⟩ => by
  unfold wRel at hw
  cases hr : ρ[i]? with
  | none => rw [hr] at hw; exact hw.elim
  | some o =>
    rw [hr] at hw
    cases o with
    | none => exact hw.elim
    | some s =>
      cases s with
      | own d => exact ⟨_, α, E, ok.release hr, hw, p.move ok.gi (Rel.refl.less fun a z => ownS_dat z)⟩
      | dat d => exact ⟨ρ, α, E, ok, hw, p⟩
end

/-! ### what a loop walks -/
/-- what lies in O is a list or a dict -/
def OO (O : Addr → Prop) (H : Hp) : Prop := ∀ a, O a → ∃ u, H a = some u ∧ OwnO u
theorem ON.oo {C : DC} {O : Addr → Prop} {H : Hp} (o : ON C O H) : OO O H := fun a z => (o a z).1
def Stay (C : DC) (O : Addr → Prop) (H1 H : Hp) : Prop := ∀ a o, H1 a = some o → ¬ O a → ¬ C.Spc a → H a = some o
section
variable {C : DC} {O O' : Addr → Prop} {H1 H : Hp}
theorem Stay.of_ext (e : Ext C H1 H) : Stay C O H1 H := fun a o h _ s => e a o h s
theorem Stay.sqT (g : GI C H1) (on : ∀ a, O a → ∃ u, H1 a = some u ∧ OwnO u) (st : Stay C O H1 H) {a : Addr} {xs : List V} (h : SqT C.K H1 a xs) : SqT C.K H a xs := by
  have no : ∀ u, H1 a = some u → (∀ v, OwnO v → u ≠ v) → ¬ O a := fun u e n z => by
    obtain ⟨v, e2, o⟩ := on a z
    rw [e] at e2; cases e2; exact n _ o rfl
  rcases h with (h | ⟨o, h⟩) | h
  · exact .inl (.inl (st _ _ h (no _ h fun v ov z => by cases ov <;> cases z) (g.notSpc h (fun _ z => by cases z) fun _ z => by cases z)))
  · exact .inl (.inr ⟨o, st _ _ h (no _ h fun v ov z => by cases ov <;> cases z) (g.notSpc h (fun _ z => by cases z) fun _ z => by cases z)⟩)
  · exact .inr h
theorem Stay.tupR (g : GI C H1) (on : OO O H1) (st : Stay C O H1 H) {a : Addr} {xs : List V} (h : TupR C.K H1 a xs) : TupR C.K H a xs := by
  rcases h with ⟨o, h, d⟩ | h
  · refine .inl ⟨o, st _ _ h (fun z => ?_) (g.notSpc h (fun _ z => by cases z) fun _ z => by cases z), d⟩
    obtain ⟨v, e2, o⟩ := on a z
    rw [h] at e2; cases e2; cases o
  · exact .inr h
theorem Stay.ext (g : GI C H1) (on : OO O H1) (st : Stay C O H1 H) {a : Addr} {φ : Heap → Prop} (h : H1 a = some (.ext φ)) : H a = some (.ext φ) := by
  refine st _ _ h (fun z => ?_) (g.notSpc h (fun _ z => by cases z) fun _ z => by cases z)
  obtain ⟨v, e2, o⟩ := on a z
  rw [h] at e2; cases e2; cases o
theorem Stay.scrR (g : GI C H1) (on : OO O H1) (st : Stay C O H1 H) {a : Addr} {xs : List V} (h : ScrR C.K H1 a xs) : ScrR C.K H a xs := by
  rcases h with ⟨o, h⟩ | h
  · refine .inl ⟨o, st _ _ h (fun z => ?_) (g.notSpc h (fun _ z => by cases z) fun _ z => by cases z)⟩
    obtain ⟨v, e2, o⟩ := on a z
    rw [h] at e2; cases e2; cases o
  · exact .inr h
mutual
theorem Rp.move (g : GI C H1) (on : OO O H1) (st : Stay C O H1 H) (ho : ∀ a, O' a → O a ∨ H1 a = none) : ∀ {d : D} {v : V}, Rp C O H1 d v → Rp C O' H d v
  | .non, _, h => by unfold Rp at h ⊢; exact h
  | .bl _, _, h => by unfold Rp at h ⊢; exact h
  | .int _, _, h => by unfold Rp at h ⊢; exact h
  | .str _, _, h => by unfold Rp at h ⊢; exact h
  | .tup _, _, h => by unfold Rp at h ⊢; obtain ⟨b, xs, e, s, r⟩ := h; exact ⟨b, xs, e, st.tupR g on s, RpL.move g on st ho r⟩
  | .lst _, _, h => by unfold Rp at h ⊢; obtain ⟨b, xs, e, n, s, q, r⟩ := h; exact ⟨b, xs, e, fun z => (ho _ z).elim n fun z => by (rw [q] at z; cases z), s, st _ _ q n s, RpL.move g on st ho r⟩
  | .dik _ _, _, h => by unfold Rp at h ⊢; obtain ⟨b, xs, e, n, s, q, l, r⟩ := h; exact ⟨b, xs, e, fun z => (ho _ z).elim n fun z => by (rw [q] at z; cases z), s, st _ _ q n s, l, RpL.move g on st ho r⟩
  | .dit _ _, _, h => by unfold Rp at h ⊢; obtain ⟨b, xs, e, n, s, q, l, r⟩ := h; exact ⟨b, xs, e, fun z => (ho _ z).elim n fun z => by (rw [q] at z; cases z), s, st _ _ q n s, l, RpL.move g on st ho r⟩
  | .fn _, _, h => by unfold Rp at h ⊢; exact h
  | .par _ _, _, h => by unfold Rp at h ⊢; obtain ⟨a, x, y, e, s, r, t⟩ := h; exact ⟨a, x, y, e, st.sqT g on s, Rp.move g on st ho r, Rp.move g on st ho t⟩
  | .well, _, h => by unfold Rp at h ⊢; exact h
  | .scr _, _, h => by unfold Rp at h ⊢; obtain ⟨b, e, s⟩ := h; exact ⟨b, e, st.scrR g on s⟩
theorem RpL.move (g : GI C H1) (on : OO O H1) (st : Stay C O H1 H) (ho : ∀ a, O' a → O a ∨ H1 a = none) : ∀ {ds : List D} {vs : List V}, RpL C O H1 ds vs → RpL C O' H ds vs
  | [], _, h => by unfold RpL at h ⊢; exact h
  | _ :: _, _, h => by unfold RpL at h ⊢; obtain ⟨v, vs, e, r, t⟩ := h; exact ⟨v, vs, e, Rp.move g on st ho r, RpL.move g on st ho t⟩
end
end
end DL

set_option Elab.async false
set_option linter.all false
set_option maxRecDepth 100000
namespace DL
open PySem PySem.Spec PyProof.Rows L2 NdefX LamX

/-! ### a walk over data -/
/-- full: what is owned may change meanwhile; else nothing changes -/
def Kept (C : DC) (O : Addr → Prop) (full : Bool) (H1 H : Hp) : Prop := match full with
  | true => Stay C O H1 H
  | false => Ext C H1 H
theorem Kept.stay {C : DC} {O : Addr → Prop} {full : Bool} {H1 H : Hp} (k : Kept C O full H1 H) : Stay C O H1 H := by
  cases full
  · exact Stay.of_ext k
  · exact k
theorem Kept.of_ext {C : DC} {O : Addr → Prop} {full : Bool} {H1 H : Hp} (k : Ext C H1 H) : Kept C O full H1 H := by
  cases full
  · exact k
  · exact Stay.of_ext k
structure DWalk (C : DC) (O : Addr → Prop) (full : Bool) (J : It) (items : List D) (H1 : Hp) : Prop where
  ex : ∃ (G : Hp → Prop) (Y : Nat → Hp → V → Hp → Prop), Walk J items.length G Y ∧ (∀ H, Kept C O full H1 H → G H) ∧
    ∀ i H x H', Kept C O full H1 H → GI C H → Y i H x H' → Ext C H H' ∧ GI C H' ∧ ∃ d, items[i]? = some d ∧ ∀ O', (∀ a, O' a → O a ∨ H1 a = none) → Rp C O' H' d x
abbrev WI := Ev → (List D → Prop) → Prop
def liftI (B : BX) (full : Bool) (t : WI) : TI := fun σ H R => ∃ ρ α P, EnvOk B α σ H ρ ∧ t ρ P ∧
  ∀ items J H', P items → GI B.C H' → Ext B.C H H' → DWalk B.C (Own B.S0 ρ α) full J items H' → R J H'
theorem DWalk.weak {C : DC} {O : Addr → Prop} {J : It} {items : List D} {H1 : Hp} (w : DWalk C O true J items H1) : DWalk C O false J items H1 := by
  obtain ⟨G, Y, a, b, c⟩ := w.ex
  exact ⟨G, Y, a, fun H k => b H (.of_ext k), fun i H x H' k => c i H x H' (.of_ext k)⟩
theorem dw_list {C : DC} {O : Addr → Prop} {K : PySem.W.Frag} {H1 : Hp} {a : Addr} {ds : List D} {xs : List V} {full : Bool} (g : GI C H1) (on : ON C O H1) (hs : ¬ C.Spc a) (h : H1 a = some (.lst xs)) (r : RpL C O H1 ds xs) (hf : full = true → ¬ O a) : DWalk C O full (Itl K a) ds H1 := by
  refine ⟨fun H => SqL K H a xs, YAt xs, by rw [← r.length]; exact walk_list, fun H k => ?_, fun i H x H' k gH y => ?_⟩
  · cases full with
    | true => exact SqL.of (k a _ h (hf rfl) hs)
    | false => exact SqL.of (k a _ h hs)
  · obtain ⟨rfl, e⟩ := y
    obtain ⟨d, e1, r1⟩ := r.getv e
    exact ⟨Ext.refl, gH, d, e1, fun O' ho => Rp.move g on.oo k.stay ho r1⟩
theorem dw_tup {C : DC} {O : Addr → Prop} {H1 : Hp} {a : Addr} {ds : List D} {xs : List V} {full : Bool} (g : GI C H1) (on : ON C O H1) (h : SqT C.K H1 a xs) (r : RpL C O H1 ds xs) : DWalk C O full (Itt C.K a) ds H1 := by
  refine ⟨fun H => SqT C.K H a xs, YAt xs, by rw [← r.length]; exact walk_tup, fun H k => k.stay.sqT g on.oo h, fun i H x H' k gH y => ?_⟩
  obtain ⟨rfl, e⟩ := y
  obtain ⟨d, e1, r1⟩ := r.getv e
  exact ⟨Ext.refl, gH, d, e1, fun O' ho => Rp.move g on.oo k.stay ho r1⟩

section
variable {X : Cx} {B : BX} {tg e : Expr} {fl : Fl} {pos : Pos}
theorem pi_or {w1 w2 : TI} (h1 : PI X tg e w1) (h2 : PI X tg e w2) : PI X tg e (fun σ H R => w1 σ H R ∨ w2 σ H R) := ⟨fun pins s σ H R I h => h.elim (h1.run pins s σ H R I) (h2.run pins s σ H R I)⟩
/-- a list's or a tuple's elements -/
def wSq (t : WE) : WI := fun ρ Q => t ρ fun d => match d with
  | .lst ds => Q ds
  | .tup ds => Q ds
  | _ => False
/-- what comes of e, by cases -/
theorem pe_case {te : TE} {t2 : V → VK} (h : PE X e te) : PE X e (fun σ H R => te σ H R) := h
theorem pi_sq {l : Expr} {tl : TE} (hl : PE X l tl) : PI X tg l (fun σ H R => tl σ H fun x H1 => ∃ a, x = .ref a ∧ (((∃ xs, SqL X.K H1 a xs) ∧ R (Itl X.K a) H1) ∨ ((∃ xs, SqT X.K H1 a xs) ∧ R (Itt X.K a) H1))) := by
  refine ⟨fun pins s σ H R I h => ?_⟩
  refine thn (hl.run pins s σ H _ I h) fun v s1 ⟨x, H1, I1, r1, q1⟩ => ?_
  obtain ⟨a, e, q⟩ := q1
  subst e
  cases r1
  rcases q with ⟨⟨xs, hq⟩, q⟩ | ⟨⟨xs, hq⟩, q⟩
  · obtain ⟨its, rv, p, hz⟩ := I1.list hq
    refine wpAny_pyIter_list p.isList ?_
    refine ⟨s1.heap.objs.size, [s1.heap.objs.size], _, _, H1, rfl, I1.kept (t' := s1.toks) fun b o e => Heap.get?_push_of_some _ e, turn_list a _, ⟨_, Heap.get?_push_size _ rfl, rfl, rfl⟩, fun b hb => ?_, q⟩
    have e : b = s1.heap.objs.size := by simpa using hb
    subst e
    exact I1.fpOk (Nat.le_refl _) (I1.hok.fresh (Nat.le_refl _))
  · obtain ⟨its, rv, p, hz⟩ := I1.tuple hq
    refine wpAny_pyIter_tuple (show s1.heap.IsTuple a its.toArray from p) ?_
    refine ⟨s1.heap.objs.size, [s1.heap.objs.size], _, _, H1, rfl, I1.kept (t' := s1.toks) fun b o e => Heap.get?_push_of_some _ e, turn_tuple a _, ⟨_, Heap.get?_push_size _ rfl, rfl, rfl⟩, fun b hb => ?_, q⟩
    have e : b = s1.heap.objs.size := by simpa using hb
    subst e
    exact I1.fpOk (Nat.le_refl _) (I1.hok.fresh (Nat.le_refl _))
theorem ji_sq {t : WE} (hK : X.K = B.C.K) (h : PE X e (liftE B fl t)) (hf : fl ≠ .t := by intro z; cases z) : PI X tg e (liftI B true (wSq t)) :=
  (pi_sq (h.toC hf)).weak fun σ H R ⟨ρ, α, P, E, hw, post⟩ => ⟨ρ, α, _, E, hw, fun d v H1 hd g1 e1 r1 => by
    cases d <;> first
      | exact False.elim hd
      | (obtain ⟨a, xs, e, n, s, q, r⟩ := rp_lst.mp r1.rc
         exact ⟨a, e, .inl ⟨⟨xs, SqL.of q⟩, post _ _ _ hd g1 e1 (dw_list g1 (E.ext g1 e1).on s q r fun _ => n)⟩⟩)
      | (obtain ⟨a, xs, e, q, r⟩ := rp_tup.mp r1.rc
         exact ⟨a, e, .inr ⟨⟨xs, by rw [hK]; exact q.sq⟩, post _ _ _ hd g1 e1 (by rw [hK]; exact dw_tup g1 (E.ext g1 e1).on q.sq r)⟩⟩)⟩
theorem ji_sqT {t : WE} (hK : X.K = B.C.K) (h : PE X e (liftE B fl t)) : PI X tg e (liftI B false (wSq t)) :=
  (pi_sq h.toT).weak fun σ H R ⟨ρ, α, P, E, hw, post⟩ => ⟨ρ, α, _, E, hw, fun d v H1 hd g1 e1 r1 => by
    cases d <;> first
      | exact False.elim hd
      | (obtain ⟨a, xs, e, s, q, r⟩ := rt_lst r1.rt
         exact ⟨a, e, .inl ⟨⟨xs, SqL.of q⟩, post _ _ _ hd g1 e1 (dw_list g1 (E.ext g1 e1).on s q r fun z => by cases z)⟩⟩)
      | (obtain ⟨a, xs, e, q, r⟩ := rt_tup r1.rt
         exact ⟨a, e, .inr ⟨⟨xs, by rw [hK]; exact q.sq⟩, post _ _ _ hd g1 e1 (by rw [hK]; exact dw_tup g1 (E.ext g1 e1).on q.sq r)⟩⟩)⟩
theorem _root_.L2.PI.toF {t : WI} {full : Bool} (h : PI X tg e (liftI B full t)) : PI X tg e (liftI B false t) := h.weak fun σ H R ⟨ρ, α, P, E, hw, post⟩ =>
  ⟨ρ, α, P, E, hw, fun items J H' hp g ex w => post items J H' hp g ex (by
    cases full
    · exact w
    · exact w.weak)⟩
/-- a text's signs -/
def wStr (t : WE) : WI := fun ρ Q => t ρ fun d => match d with
  | .str x => Q (x.cps.toList.map fun c => .str ⟨#[c]⟩)
  | _ => False
theorem ji_str {t : WE} {full : Bool} (h : PE X e (liftE B fl t)) : PI X tg e (liftI B full (wStr t)) :=
  (pi_str h.toT).weak fun σ H R ⟨ρ, α, P, E, hw, post⟩ => ⟨ρ, α, _, E, hw, fun d v H1 hd g1 e1 r1 => by
    cases d <;> first
      | exact False.elim hd
      | (rename_i x
         refine ⟨x, rt_str r1.rt, post _ _ _ hd g1 e1 ⟨fun _ => True, _, by rw [List.length_map, Array.length_toList]; exact walk_str, fun _ _ => trivial, fun i H y H' k gH q => ?_⟩⟩
         obtain ⟨rfl, c, e, rfl⟩ := q
         exact ⟨Ext.refl, gH, _, by rw [List.getElem?_map, Array.getElem?_toList, e]; rfl, fun O' _ => rp_str.mpr rfl⟩)⟩
/-- range(n), range(a, b) -/
def rngD (lo : Int) (n : Nat) : List D := (List.range n).map fun i => .int (lo + (i : Nat))
theorem rngD_get {lo : Int} {n i : Nat} (h : i < n) : (rngD lo n)[i]? = some (.int (lo + (i : Nat))) := by
  unfold rngD; rw [List.getElem?_map, List.getElem?_range h]; rfl
theorem dw_range {C : DC} {O : Addr → Prop} {lo : Int} {n : Nat} {H1 : Hp} {full : Bool} : DWalk C O full (Itr lo n) (rngD lo n) H1 := by
  refine ⟨fun _ => True, fun i H x H' => i < n ∧ H' = H ∧ x = .int (lo + (i : Nat)), ?_, fun _ _ => trivial, fun i H y H' k gH q => ?_⟩
  · have e : (rngD lo n).length = n := by unfold rngD; simp
    rw [e]
    exact ⟨fun i H hi _ => hi, fun H _ => Nat.le_refl _, fun i H x H' hi _ y => ⟨hi, y.1, y.2⟩⟩
  · obtain ⟨hi, rfl, rfl⟩ := q
    exact ⟨Ext.refl, gH, _, rngD_get hi, fun O' _ => rp_int.mpr rfl⟩
def wRange1 (t : WA) : WI := fun ρ Q => t ρ fun ds => match ds with
  | [.int j] => (-(2 ^ 62) ≤ j ∧ j < 2 ^ 62) ∧ Q (rngD 0 j.toNat)
  | _ => False
def wRange2 (t : WA) : WI := fun ρ Q => t ρ fun ds => match ds with
  | [.int i, .int j] => (-(2 ^ 62) ≤ i ∧ i < 2 ^ 62 ∧ -(2 ^ 62) ≤ j ∧ j < 2 ^ 62) ∧ Q (rngD i (j - i).toNat)
  | _ => False
theorem rl_1 {C : DC} {O : Addr → Prop} {H : Hp} {d : D} {vs : List V} (h : RpTL C O H [d] vs) : ∃ v, vs = [v] ∧ RpT C O H d v := by
  obtain ⟨v, ws, e, r, t⟩ := h
  have t : ws = [] := t
  subst t
  exact ⟨v, e, r⟩
theorem rl_2 {C : DC} {O : Addr → Prop} {H : Hp} {d d2 : D} {vs : List V} (h : RpTL C O H [d, d2] vs) : ∃ v v2, vs = [v, v2] ∧ RpT C O H d v ∧ RpT C O H d2 v2 := by
  obtain ⟨v, ws, e, r, t⟩ := h
  obtain ⟨v2, rfl, r2⟩ := rl_1 t
  exact ⟨v, v2, e, r, r2⟩
theorem rl_3 {C : DC} {O : Addr → Prop} {H : Hp} {d d2 d3 : D} {vs : List V} (h : RpTL C O H [d, d2, d3] vs) : ∃ v v2 v3, vs = [v, v2, v3] ∧ RpT C O H d v ∧ RpT C O H d2 v2 ∧ RpT C O H d3 v3 := by
  obtain ⟨v, ws, e, r, t⟩ := h
  obtain ⟨v2, v3, rfl, r2⟩ := rl_2 t
  exact ⟨v, v2, v3, e, r, r2⟩
theorem ji_range1 {a : Expr} {p : Pos} {ta : WA} {full : Bool} (hg : Gl X "range") (hm : X.mg "range" = none) (ha : PA X [a] (liftB B ta)) (hs : starEach [a] X.env = [(false, eval a X.env)] := by rfl) : PI X tg (.Call (.Name "range" p) [a] [] pos) (liftI B full (wRange1 ta)) :=
  (pi_range1 hg hm ha hs).weak fun σ H R ⟨ρ, α, P, E, hw, post⟩ => ⟨ρ, α, _, E, hw, fun ds vs H1 hd g1 e1 r1 => by
    split at hd
    · rename_i j
      obtain ⟨v, rfl, r⟩ := rl_1 r1
      rw [rt_int r]
      exact ⟨j, rfl, hd.1.1, hd.1.2, post _ _ _ hd.2 g1 e1 dw_range⟩
    · exact hd.elim⟩
theorem ji_range2 {a b : Expr} {p : Pos} {ta : WA} {full : Bool} (hg : Gl X "range") (hm : X.mg "range" = none) (ha : PA X [a, b] (liftB B ta)) (hs : starEach [a, b] X.env = [(false, eval a X.env), (false, eval b X.env)] := by rfl) (hs2 : starEach [b] X.env = [(false, eval b X.env)] := by rfl) : PI X tg (.Call (.Name "range" p) [a, b] [] pos) (liftI B full (wRange2 ta)) :=
  (pi_range2 hg hm ha hs hs2).weak fun σ H R ⟨ρ, α, P, E, hw, post⟩ => ⟨ρ, α, _, E, hw, fun ds vs H1 hd g1 e1 r1 => by
    split at hd
    · rename_i i j
      obtain ⟨v, v2, rfl, r, r2⟩ := rl_2 r1
      rw [rt_int r, rt_int r2]
      exact ⟨i, j, rfl, hd.1, post _ _ _ hd.2 g1 e1 dw_range⟩
    · exact hd.elim⟩

/-! ### for -/
def forGo (g : WG) (body : WS) : List D → WEnds → Ev → Prop
  | [], E, ρ => E.nx ρ
  | d :: ds, E, ρ => g d ρ fun ρ1 => body { nx := forGo g body ds E, ct := forGo g body ds E, bk := E.nx, rt := E.rt } ρ1
def wFor (wi : WI) (g : WG) (body : WS) : WS := fun E ρ => wi ρ fun items => forGo g body items E ρ
theorem js_for {iter : Expr} {body : List Stmt} {wi : WI} {g : WG} {js : List Nat} {tb : WS} (hp : PassesOwn (model X.prog X.w) X.A X.env X.xe) (hc : X.calm = true) (hi : PI X tg iter (liftI B true wi)) (hg : PG X tg (liftG B js g)) (hb : PSs X body (liftS B tb))
    (hs : ∀ x, foldedSetIterable iter X.env x = pure x := by intro _; rfl) : PS X (.For tg iter body [] pos) (liftS B (wFor wi g tb)) :=
  (ps_for hp hc hi hg hb hs).weak fun D σ H ⟨ρ0, α0, E, ok0, hw, p⟩ => ⟨ρ0, α0, _, ok0, hw, fun items J H1 hI g1 e1 dw => by
    obtain ⟨G, Y, wk, hG, hY⟩ := dw.ex
    have ok1 := ok0.ext g1 e1
    have stay : ∀ {ρ α H}, Rel B.C (OwnS ρ0 α0) H1 (OwnS ρ α) H → Kept B.C (Own B.S0 ρ0 α0) true H1 H := fun r a o h n s => r.keep a o h (fun z => n (.inr z)) s
    refine for_it wk (fun i σ H => ∃ ρ α, EnvOk B α σ H ρ ∧ Rel B.C (OwnS ρ0 α0) H1 (OwnS ρ α) H ∧ forGo g tb (items.drop i) E ρ) ⟨ρ0, α0, ok1, Rel.refl, hI⟩ (fun i σ H _ ⟨ρ, α, _, r, _⟩ => hG H (stay r)) ?_ ?_
    · rintro i x σ2 H2 H3 hi ⟨ρ, α, ok, r, hgo⟩ y
      obtain ⟨e3, g3, d, hd, hr⟩ := hY i H2 x H3 (stay r) ok.gi y
      have hdrop : items.drop i = d :: items.drop (i + 1) := by
        obtain ⟨hl, q⟩ := List.getElem?_eq_some_iff.mp hd
        rw [← q]; exact List.drop_eq_getElem_cons hl
      rw [hdrop] at hgo
      refine ⟨ρ, α, d, _, ok.ext g3 e3, hr _ fun a z => ?_, hgo, fun ρ4 σ4 h4 q4 => ⟨ρ4, α, _, q4.ok, h4, ?_⟩⟩
      · rcases z with z | z
        · exact .inl (.inl z)
        · exact (r.own a z).elim (fun z => .inl (.inr z)) .inr
      have r4 : Rel B.C (OwnS ρ0 α0) H1 (OwnS ρ4 α) H3 := (r.trans ok.gi (.of_ext e3)).less q4.own
      exact ⟨fun ρ' α' σ' H' h ok' q => ⟨ρ', α', ok', r4.trans g3 q, h⟩, fun ρ' α' σ' H' h ok' q => p.nx ρ' α' σ' H' h ok' ((Rel.of_ext e1).trans g1 (r4.trans g3 q)), fun ρ' α' σ' H' h ok' q => ⟨ρ', α', ok', r4.trans g3 q, h⟩, p.rt⟩
    · rintro σ2 H2 ⟨ρ, α, ok, r, hgo⟩
      rw [List.drop_length] at hgo
      exact p.nx ρ α σ2 H2 hgo ok ((Rel.of_ext e1).trans g1 r)⟩
end
end DL

set_option Elab.async false
set_option linter.all false
set_option maxRecDepth 100000
namespace DL
open PySem PySem.Spec PyProof.Rows L2 NdefX LamX

/-- one more address that must not come into data -/
def BX.add (B : BX) (a : Addr) : BX := { B with S0 := fun b => B.S0 b ∨ b = a }
theorem wipe_wipe : ∀ (vs : List Nat) (σ : L2.St), wipe (wipe σ vs) vs = wipe σ vs := by
  have q : ∀ (ws vs : List Nat) (σ : L2.St), (∀ i ∈ ws, i ∈ vs) → wipe (wipe σ ws) vs = wipe σ vs := by
    intro ws
    induction ws with
    | nil => intro vs σ _; rfl
    | cons w ws ih =>
      intro vs σ h
      show wipe ((wipe σ ws).set w none) vs = _
      rw [wipe_set (h w (by simp))]
      exact ih vs σ fun i z => h i (by simp [z])
  exact fun vs σ => q vs vs σ fun _ z => z
def wipeE (ρ : Ev) : List Nat → Ev
  | [] => ρ
  | v :: vs => (wipeE ρ vs).set v none
/-- none of the slots holds an owned thing -/
def noOwn (ρ : Ev) : List Nat → Prop
  | [] => True
  | v :: vs => (match ρ[v]? with
    | some (some (.own _)) => False
    | _ => True) ∧ noOwn ρ vs
section
variable {B : BX} {α : Nat → Addr} {σ : L2.St} {H H1 : Hp} {ρ : Ev}
theorem EnvOk.wipe (E : EnvOk B α σ H ρ) : ∀ vs : List Nat, EnvOk B α (L2.wipe σ vs) H (wipeE ρ vs)
  | [] => E
  | v :: vs => (EnvOk.wipe E vs).setNone
theorem noOwn_at : ∀ {vs : List Nat}, noOwn ρ vs → ∀ i ∈ vs, ∀ d, ρ[i]? ≠ some (some (Slot.own d))
  | [], _, i, hi, d => absurd hi (by simp)
  | v :: vs, h, i, hi, d => by
    rcases List.mem_cons.mp hi with rfl | hi
    · intro e
      have h1 := h.1
      rw [e] at h1
      exact h1
    · exact noOwn_at h.2 i hi d
theorem wipeE_get : ∀ {vs : List Nat} {i : Nat}, i ∉ vs → (wipeE ρ vs)[i]? = ρ[i]?
  | [], _, _ => rfl
  | v :: vs, i, h => by
    unfold wipeE
    rw [List.getElem?_set_ne (fun e => h (by rw [e]; exact List.mem_cons_self))]
    exact wipeE_get fun z => h (List.mem_cons_of_mem _ z)
theorem ownS_wipe {vs : List Nat} (h : noOwn ρ vs) {a : Addr} (z : OwnS ρ α a) : OwnS (wipeE ρ vs) α a := by
  obtain ⟨i, d, e, ha⟩ := z
  refine ⟨i, d, ?_, ha⟩
  rw [wipeE_get fun hi => noOwn_at h i hi d e]
  exact e
/-- a list that is being made lies at a -/
theorem EnvOk.addS (E : EnvOk B α σ H1 ρ) {a : Addr} (ha : H1 a = none) (g : GI B.C H) (e : Ext B.C H1 H) (hu : ∃ u, H a = some u ∧ OwnO u) : EnvOk (B.add a) α σ H ρ := by
  have E2 := E.ext g e
  refine ⟨g, E2.rel, E2.len, fun i s h => ?_, E2.inj, fun b hb => ?_⟩
  · obtain ⟨v, h1, h2⟩ := E.slot i s h
    refine ⟨v, h1, ?_⟩
    have hO : ∀ b, Own (B.add a).S0 ρ α b → Own B.S0 ρ α b ∨ b = a := fun b z => z.elim (fun z => z.elim (fun z => .inl (.inl z)) .inr) fun z => .inl (.inr z)
    cases s with
    | dat d => exact Rp.mono hO (Rp.ext E.gi e (Rp.avoid ha h2))
    | own d => exact ⟨h2.1, h2.2.1, ((h2.2.2.avoid ha).ext E.gi e).mono hO⟩
  · rcases hb with hb | rfl
    · exact E2.s0 b hb
    · exact ⟨hu, E.gi.notNew ha, fun z => by
        obtain ⟨_, o, q, _⟩ := own_obj E z
        rw [ha] at q; cases q⟩
end

/-! ### list comprehensions -/
def lcGo (g : WG) (tt : WT) (te : WE) (ρ : Ev) : List D → List D → (List D → Prop) → Prop
  | [], acc, Q => Q acc
  | d :: ds, acc, Q => g d ρ fun ρ1 => tt ρ1 fun b => match b with
    | true => te ρ1 fun y => acc.length < sizeLine ∧ lcGo g tt te ρ ds (acc ++ [y]) Q
    | false => lcGo g tt te ρ ds acc Q
def wLc (wi : WI) (g : WG) (tt : WT) (te : WE) (vs : List Nat) : WE := fun ρ Q => noOwn ρ vs ∧ wi ρ fun items => lcGo g tt te (wipeE ρ vs) items [] fun acc => Q (.lst acc)
def wYes : WT := fun _ Q => Q true
section
variable {X : Cx} {B : BX} {tg e elt iter : Expr} {ifs : List Expr} {fl : Fl} {pos : Pos}
theorem jts_nil : PTs X [] (liftT B wYes) := ⟨fun pins s σ H R I ⟨ρ, α, P, E, hw, post⟩ => pts_nil.run pins s σ H R I (post true H hw E.gi Ext.refl)⟩
theorem jts_one {c : Expr} {t : WT} (h : PT X c (liftT B t)) : PTs X [c] (liftT B t) := pts_one h
theorem pg_ex {t : Addr → TG} (h : ∀ a, PG X e (t a)) : PG X e (fun v σ H K => ∃ a, t a v σ H K) := ⟨fun pins s σ H v u Q I r ⟨a, q⟩ => (h a).run pins s σ H v u Q I r q⟩
theorem pts_ex {t : Addr → TT} (h : ∀ a, PTs X ifs (t a)) : PTs X ifs (fun σ H K => ∃ a, t a σ H K) := ⟨fun pins s σ H Q I ⟨a, q⟩ => (h a).run pins s σ H Q I q⟩
theorem pe_ex {t : Addr → TE} (h : ∀ a, PE X e (t a)) : PE X e (fun σ H K => ∃ a, t a σ H K) := ⟨fun pins s σ H Q I ⟨a, q⟩ => (h a).run pins s σ H Q I q⟩
theorem lc_w {own : List (Str × Nat)} {wi : WI} {g : WG} {js : List Nat} {tt : WT} {te : WE} {B : BX} (hj : ∀ j ∈ js, j ∈ own.map (·.2)) {σ : L2.St} {H : Hp} {R : VK} (hlift : liftE B .n (wLc wi g tt te (own.map (·.2))) σ H R) :
    tLc (liftI B false wi) (fun v σ H K => ∃ a, liftG (B.add a) js g v σ H K) (fun σ H K => ∃ a, liftT (B.add a) tt σ H K) (fun σ H K => ∃ a, liftE (B.add a) .c te σ H K) (own.map (·.2)) σ H R := by
  obtain ⟨ρ0, α0, P, ok0, ⟨hno, hw⟩, post⟩ := hlift
  exact
    ⟨ρ0, α0, _, ok0, hw, fun items J H1 hI g1 e1 dw Da hD => by
      obtain ⟨G, Y, wk, hG, hY⟩ := dw.ex
      have ok1 := ok0.ext g1 e1
      have nS : ¬ B.C.Spc Da := g1.notNew hD
      -- what must not come into the elements
      have hOD : ∀ b, (Own B.S0 ρ0 α0 b ∨ b = Da) → Own B.S0 ρ0 α0 b ∨ H1 b = none := fun b z => z.elim .inl fun z => .inr (by rw [z]; exact hD)
      refine lc_it (g := fun v σ H K => ∃ a, liftG (B.add a) js g v σ H K) (tt := fun σ H K => ∃ a, liftT (B.add a) tt σ H K) (te := fun σ H K => ∃ a, liftE (B.add a) .c te σ H K) (vs := own.map (·.2)) (σ := σ) (Qd := R (.ref Da)) wk (fun i H2 => ∃ acc xs, Ext B.C H1 H2 ∧ GI B.C H2 ∧ H2 Da = some (.lst xs) ∧ RpL B.C (fun b => Own B.S0 ρ0 α0 b ∨ b = Da) H2 acc xs ∧ lcGo g tt te (wipeE ρ0 (own.map (·.2))) (items.drop i) acc fun acc => P (.lst acc))
        ⟨[], [], Ext.new hD, g1.new hD, upd_same, RpL.nil, hI⟩ (fun i H2 _ ⟨_, _, e2, _⟩ => hG H2 e2) ?_ ?_
      · rintro i x H2 H3 hi ⟨acc, xs, e2, g2, q2, r2, hgo⟩ y
        obtain ⟨e3, g3, d, hd, hr⟩ := hY i H2 x H3 e2 g2 y
        have hdrop : items.drop i = d :: items.drop (i + 1) := by
          obtain ⟨hl, q⟩ := List.getElem?_eq_some_iff.mp hd
          rw [← q]; exact List.drop_eq_getElem_cons hl
        rw [hdrop] at hgo
        have e13 : Ext B.C H1 H3 := e2.trans e3
        have okW : EnvOk (B.add Da) α0 (wipe σ (own.map (·.2))) H3 (wipeE ρ0 (own.map (·.2))) := EnvOk.addS (ok1.wipe _) hD g3 e13 ⟨_, e3 _ _ q2 nS, .lst⟩
        have hO1 : ∀ b, Own (B.add Da).S0 (wipeE ρ0 (own.map (·.2))) α0 b → Own B.S0 ρ0 α0 b ∨ b = Da := fun b z => by
          rcases z with (z | z) | ⟨j, f, z, w⟩
          · exact .inl (.inl z)
          · exact .inr z
          · refine .inl (.inr ⟨j, f, ?_, w⟩)
            by_cases hj : j ∈ own.map (·.2)
            · exfalso
              have no : ∀ (vs : List Nat), j ∈ vs → ∀ s, (wipeE ρ0 vs)[j]? ≠ some (some s) := by
                intro vs
                induction vs with
                | nil => intro h; simp at h
                | cons v vs ih =>
                  intro h s e
                  unfold wipeE at e
                  rcases getset e with ⟨_, q, _⟩ | ⟨hj, q⟩
                  · cases q
                  · rcases List.mem_cons.mp h with h | h
                    · exact hj h
                    · exact ih h s q
              exact no _ hj _ z
            · rw [wipeE_get hj] at z; exact z
        refine ⟨Da, _, α0, d, _, okW, hr _ fun b z => hOD b (hO1 b z), hgo, fun ρ4 σ4 h4 q4 => ⟨by rw [q4.wip _ hj]; exact wipe_wipe _ _, Da, ρ4, α0, _, q4.ok, h4, fun b H5 hb g5 e5 => ?_⟩⟩
        have e15 : Ext B.C H1 H5 := e13.trans e5
        have q5 : H5 Da = some (.lst xs) := e5 _ _ (e3 _ _ q2 nS) nS
        have r5 := RpL.ext g3 e5 (RpL.ext g2 e3 r2)
        cases b with
        | false => exact iteF ⟨acc, xs, e15, g5, q5, r5, hb⟩
        | true =>
          refine iteT ⟨Da, ρ4, α0, _, q4.ok.ext g5 e5, hb, fun y v H6 hy g6 e6 r6 => ⟨xs, e6 _ _ q5 nS, by rw [r5.length]; exact hy.1, acc ++ [y], xs ++ [v], ?_, ?_, upd_same, ?_, hy.2⟩⟩
          · intro b o hb hs
            rw [upd_ne (fun z => by rw [z, hD] at hb; cases hb)]
            exact e6 _ _ (e15 _ _ hb hs) hs
          · exact g6.write .lst (e6 _ _ q5 nS) nS
          · have ry : Rp B.C (fun b => Own B.S0 ρ0 α0 b ∨ b = Da) H6 y v := Rp.mono (fun b z => by
              rcases z with (z | z) | z
              · exact .inl (.inl z)
              · obtain ⟨j, f, w1, w2⟩ := z
                have hj4 : j ∉ own.map (·.2) := fun w => noOwn_at hno j w f w1
                exact .inr ⟨j, f, by rw [q4.out j fun w => hj4 (hj j w), wipeE_get hj4]; exact w1, w2⟩
              · exact .inl (.inr z)) r6.rc
            exact RpL.write .lst (e6 _ _ q5 nS) (.inr rfl) ((RpL.ext g5 e6 r5).app (RpL.cons ry RpL.nil))
      · rintro H2 ⟨acc, xs, e2, g2, q2, r2, hgo⟩
        rw [List.drop_length] at hgo
        exact post _ _ H2 hgo g2 (e1.trans e2) (Post.before (H := H1) g1 e1 ⟨Da, rfl, hD, Da, xs, rfl, nS, q2, r2⟩)⟩

theorem je_lc {scope : Scope} {own : List (Str × Nat)} {wi : WI} {g : WG} {js : List Nat} {tt : WT} {te : WE} {full : Bool} (hc : X.calm = true) (hN : X.N.Nodup) (hi : PI X tg iter (liftI B full wi)) (ok : BlkOk X.N X.env.scope scope own)
    (hg : ∀ (a : Addr) (s : Shared) (H : Hp) (C : Addr) (cl : List (Str × Addr)) (fp : List Addr), PG (X.blk s H scope (compEnvC scope cl C X.env) fp) tg (liftG (B.add a) js g))
    (ht : ∀ (a : Addr) (s : Shared) (H : Hp) (C : Addr) (cl : List (Str × Addr)) (fp : List Addr), PTs (X.blk s H scope (compEnvC scope cl C X.env) fp) ifs (liftT (B.add a) tt))
    (he : ∀ (a : Addr) (s : Shared) (H : Hp) (C : Addr) (cl : List (Str × Addr)) (fp : List Addr), PE (X.blk s H scope (compEnvC scope cl C X.env) fp) elt (liftE (B.add a) fl te))
    (hf : fl ≠ .t := by intro z; cases z) (hj : ∀ j ∈ js, j ∈ own.map (·.2) := by decide) (hs : ∀ x, foldedSetIterable iter X.env x = pure x := by intro _; rfl) :
    PE X (.ListComp elt [⟨tg, iter, ifs, 0⟩] scope pos) (liftE B .n (wLc wi g tt te (own.map (·.2)))) :=
  (pe_lc hc hN hi.toF ok (fun s H C cl fp => pg_ex fun a => hg a s H C cl fp) (fun s H C cl fp => pts_ex fun a => ht a s H C cl fp) (fun s H C cl fp => pe_ex fun a => (he a s H C cl fp).toC hf) hs).weak fun σ H R h => lc_w hj h
theorem js_setLc {i : Nat} {y : Str} {py spos : Pos} {scope : Scope} {own : List (Str × Nat)} {wi : WI} {g : WG} {js : List Nat} {tt : WT} {te : WE} {full : Bool} (hc : X.calm = true) (hN : X.N.Nodup) (hy : X.N[i]? = some y) (hyl : X.env.scope.names.lookup y = some .local) (hsw : swapsWith (.ListComp elt [⟨tg, iter, ifs, 0⟩] scope pos) (some (.Name y py)) spos.line X.env = pure true) (hi : PI X tg iter (liftI B full wi)) (ok : BlkOk X.N X.env.scope scope own)
    (hg : ∀ (a : Addr) (s : Shared) (H : Hp) (C : Addr) (cl : List (Str × Addr)) (fp : List Addr), PG (X.blk s H scope (compEnvC scope cl C X.env) fp) tg (liftG (B.add a) js g))
    (ht : ∀ (a : Addr) (s : Shared) (H : Hp) (C : Addr) (cl : List (Str × Addr)) (fp : List Addr), PTs (X.blk s H scope (compEnvC scope cl C X.env) fp) ifs (liftT (B.add a) tt))
    (he : ∀ (a : Addr) (s : Shared) (H : Hp) (C : Addr) (cl : List (Str × Addr)) (fp : List Addr), PE (X.blk s H scope (compEnvC scope cl C X.env) fp) elt (liftE (B.add a) fl te))
    (hf : fl ≠ .t := by intro z; cases z) (hj : ∀ j ∈ js, j ∈ own.map (·.2) := by decide) (hs : ∀ x, foldedSetIterable iter X.env x = pure x := by intro _; rfl) :
    PS X (.Assign [.Name y py] (.ListComp elt [⟨tg, iter, ifs, 0⟩] scope pos) spos) (liftS B (wAsg (wLc wi g tt te (own.map (·.2))) (gN i))) :=
  js_setT (ps_setLc hc hN hy hyl hsw hi.toF ok (fun s H C cl fp => pg_ex fun a => hg a s H C cl fp) (fun s H C cl fp => pts_ex fun a => ht a s H C cl fp) (fun s H C cl fp => pe_ex fun a => (he a s H C cl fp).toC hf) hs) (fun σ H R h => lc_w hj h) (fun z => by cases z)
theorem js_ownLc {i : Nat} {y : Str} {py spos : Pos} {scope : Scope} {own : List (Str × Nat)} {wi : WI} {g : WG} {js : List Nat} {tt : WT} {te : WE} {full : Bool} (hc : X.calm = true) (hN : X.N.Nodup) (hy : X.N[i]? = some y) (hyl : X.env.scope.names.lookup y = some .local) (hsw : swapsWith (.ListComp elt [⟨tg, iter, ifs, 0⟩] scope pos) (some (.Name y py)) spos.line X.env = pure true) (hi : PI X tg iter (liftI B full wi)) (ok : BlkOk X.N X.env.scope scope own)
    (hg : ∀ (a : Addr) (s : Shared) (H : Hp) (C : Addr) (cl : List (Str × Addr)) (fp : List Addr), PG (X.blk s H scope (compEnvC scope cl C X.env) fp) tg (liftG (B.add a) js g))
    (ht : ∀ (a : Addr) (s : Shared) (H : Hp) (C : Addr) (cl : List (Str × Addr)) (fp : List Addr), PTs (X.blk s H scope (compEnvC scope cl C X.env) fp) ifs (liftT (B.add a) tt))
    (he : ∀ (a : Addr) (s : Shared) (H : Hp) (C : Addr) (cl : List (Str × Addr)) (fp : List Addr), PE (X.blk s H scope (compEnvC scope cl C X.env) fp) elt (liftE (B.add a) fl te))
    (hf : fl ≠ .t := by intro z; cases z) (hj : ∀ j ∈ js, j ∈ own.map (·.2) := by decide) (hs : ∀ x, foldedSetIterable iter X.env x = pure x := by intro _; rfl) :
    PS X (.Assign [.Name y py] (.ListComp elt [⟨tg, iter, ifs, 0⟩] scope pos) spos) (liftS B (wAsg (wLc wi g tt te (own.map (·.2))) (gO i))) :=
  js_ownT (ps_setLc hc hN hy hyl hsw hi.toF ok (fun s H C cl fp => pg_ex fun a => hg a s H C cl fp) (fun s H C cl fp => pts_ex fun a => ht a s H C cl fp) (fun s H C cl fp => pe_ex fun a => (he a s H C cl fp).toC hf) hs) (fun σ H R h => lc_w hj h)
end
end DL

set_option Elab.async false
set_option linter.all false
set_option maxRecDepth 100000
namespace DL
open PySem PySem.Spec PyProof.Rows L2 NdefX LamX

def DC.at (C : DC) (aw : Option Addr) : DC := { C with aw := aw }
abbrev DF := List D → (D → Prop) → Prop
/-- the promise of a def: from data to data -/
def spD (C0 : DC) (n : Nat) (f : DF) : Sp := fun vs H Q _ => ∃ (aw : Option Addr) (S : Addr → Prop) (ds : List D) (P : D → Prop), ds.length = n ∧ GI (C0.at aw) H ∧ ON (C0.at aw) S H ∧ RpL (C0.at aw) S H ds vs ∧ f ds P ∧
  ∀ d v H', P d → GI (C0.at aw) H' → Ext (C0.at aw) H H' → Rp (C0.at aw) S H' d v → Q v H'
def startE (n : Nat) (ds : List D) : Ev := ds.map (fun d => some (.dat d)) ++ List.replicate (n - ds.length) none
theorem start_ok {C : DC} {S : Addr → Prop} {H : Hp} {N : List Str} {ds : List D} {vs : List V} (g : GI C H) (on : ON C S H) (r : RpL C S H ds vs) : EnvOk ⟨C, S, H⟩ (fun _ => 0) (L2.start N vs) H (startE N.length ds) := by
  have hno : ∀ i d, (startE N.length ds)[i]? ≠ some (some (Slot.own d)) := fun i d e => by
    unfold startE at e
    by_cases hi : i < ds.length
    · rw [List.getElem?_append_left (by simpa using hi), List.getElem?_map] at e
      cases q : ds[i]? with
      | none => rw [q] at e; cases e
      | some x => rw [q] at e; cases e
    · rw [List.getElem?_append_right (by simpa using hi), List.getElem?_replicate] at e
      split at e <;> cases e
  have hO : ∀ a, ¬ OwnS (startE N.length ds) (fun _ => 0) a := fun a ⟨i, d, e, _⟩ => hno i d e
  have hl := r.length
  refine ⟨g, ⟨fun a o h _ _ => h, fun a z => absurd z (hO a)⟩, by unfold L2.start startE; simp [hl], fun i s e => ?_, fun i j d e h => absurd h (hno i d), fun a z => ⟨(on a z).1, (on a z).2, hO a⟩⟩
  unfold startE at e
  by_cases hi : i < ds.length
  · rw [List.getElem?_append_left (by simpa using hi), List.getElem?_map] at e
    cases q : ds[i]? with
    | none => rw [q] at e; cases e
    | some x =>
      rw [q] at e
      cases e
      obtain ⟨v, hv, rv⟩ := r.get q
      refine ⟨v, ?_, Rp.mono (fun a z => z.elim id fun z => absurd z (hO a)) rv⟩
      unfold L2.start
      rw [List.getElem?_append_left (by rw [List.length_map, hl]; exact hi), List.getElem?_map, hv]; rfl
  · rw [List.getElem?_append_right (by simpa using hi), List.getElem?_replicate] at e
    split at e <;> cases e
/-- room for k calls, nothing is being shown (repr) -/
structure RoomG (k : Nat) (A : Around) : Prop where
  room : Room k A
  gd : A.guards = some []
theorem RoomG.mono {j k : Nat} {A : Around} (r : RoomG k A) (h : j ≤ k) : RoomG j A := ⟨r.room.mono h, r.gd⟩
structure FnG (P : Program) (w : World) (K : PySem.W.Frag) (mg : Str → Option Value) (base : Heap) (CX : CXT) (k : Nat) (f : Addr) (fd : FuncData) (ps : List Str) (sp : Sp) : Prop where
  len : ∀ vs H Q E, sp vs H Q E → vs.length = ps.length
  run : ∀ (A : Around) (outer : List Env) (s : Shared) (H : Hp) (args : Args) (us : List Value) (vs : List V) (Q : VK) (E : XK), RoomG k A → Env0 P w K mg base A outer s H → BindsTo s fd args (ps.zip us) → Vals vs us → sp vs H Q E →
    codeAny (model P w) A (.call (.ref f) args) (CR CX outer P w H s Q E) s
theorem start_noOwn {n : Nat} {ds : List D} {α : Nat → Addr} {a : Addr} : ¬ OwnS (startE n ds) α a := fun ⟨i, d, e, _⟩ => by
  unfold startE at e
  by_cases hi : i < ds.length
  · rw [List.getElem?_append_left (by simpa using hi), List.getElem?_map] at e
    cases q : ds[i]? with
    | none => rw [q] at e; cases e
    | some x => rw [q] at e; cases e
  · rw [List.getElem?_append_right (by simpa using hi), List.getElem?_replicate] at e
    split at e <;> cases e
section
variable {P : Program} {w : World} {K : PySem.W.Frag} {mg : Str → Option Value} {base : Heap}
/-- THE RULE for a def: its body's derivation, and that the body's reading follows from what is told of the def -/
theorem fn_ok {C0 : DC} {x qual : Str} {st : Stmt} {f : Addr} {fd : FuncData} {N ps : List Str} {k n : Nat} {df : DF} (F : Fun K x qual st f fd) (S : FnScope N ps (defScope st)) (hn : ps.length = n)
    (hb : ∀ (cdv : Value) (A : Around) (outer : List Env) (s : Shared) (H : Hp) (aw : Option Addr) (S : Addr → Prop), RoomG k (A.deeper (envOfC qual (defScope st) s.heap.objs.size f cdv)) →
      ∃ t : WS, PSs (cxOf CX0 P w K mg base N qual (defScope st) f cdv A outer s H E0).nox (defBody st) (liftS ⟨C0.at aw, S, H⟩ t) ∧ ∀ ds P, ds.length = n → df ds P → t { nx := fun _ => P .non, rt := P } (startE N.length ds)) :
    FnG P w K mg base CX0 (k + 1) f fd ps (spD C0 n df) := by
  obtain ⟨oc, od, kV, doc, pm, an, cdv, ct, osl, rfl, lk, hcd⟩ := F.ex
  have hlen : ∀ vs H Q E, spD C0 n df vs H Q E → vs.length = ps.length := fun vs H Q E h => by
    obtain ⟨aw, S, ds, P, hl, _, _, r, _⟩ := h
    rw [r.length, hl, hn]
  refine ⟨hlen, fun A outer s H args us vs Q E hr e0 hbd r hsp => ?_⟩
  refine codeAny_mono (R := CR CX0 outer P w H s Q E0) (LamX.run_ofS (N := N) lk hcd S hr.room e0 hbd r (hlen _ _ _ _ hsp) fun hr' => ?_) fun r s' h => by
    cases r with
    | ok f => cases f <;> exact h
    | error e => exact False.elim h
  obtain ⟨aw, S, ds, P, hl, g, on, r, h, post⟩ := hsp
  obtain ⟨t, ht, hq⟩ := hb cdv A outer s H aw S ⟨hr', hr.gd⟩
  refine ⟨_, ht.nox, _, _, _, start_ok g on r, hq ds P hl h, ?_⟩
  exact ⟨fun ρ' α' σ' H' q ok rel => post .non .non H' q ok.gi (fun a o e s => rel.keep a o e start_noOwn s) (rp_non.mpr rfl), fun _ _ _ _ z => z.elim, fun _ _ _ _ z => z.elim, fun d v H' q g' e r => post d v H' q g' e r⟩
end

/-! ### calls of defs -/
section
variable {X : Cx} {B : BX} {x : Str} {p pos : Pos} {e : Expr} {es : List Expr} {k n : Nat} {f : Addr} {fd : FuncData} {ps : List Str} {df : DF} {C0 : DC}
def wCall (n : Nat) (df : DF) (t : WA) : WE := fun ρ Q => t ρ fun ds => ds.length = n ∧ df ds Q
theorem sp_call {σ : L2.St} {H : Hp} {R : VK} {ρ : Ev} {α : Nat → Addr} {P : D → Prop} {ds : List D} {vs : List V} {H1 : Hp} {E : XK} (hB : B.C = C0.at B.C.aw) (ok : EnvOk B α σ H ρ) (g1 : GI B.C H1) (e1 : Ext B.C H H1) (r1 : RpL B.C (Own B.S0 ρ α) H1 ds vs) (hl : ds.length = n) (h : df ds P)
    (post : ∀ d v H', P d → GI B.C H' → Ext B.C H H' → Rp B.C (Own B.S0 ρ α) H' d v → R v H') : spD C0 n df vs H1 R E := by
  have on := (ok.ext g1 e1).on
  rw [hB] at g1 e1 r1 post on
  exact ⟨B.C.aw, _, ds, P, hl, g1, on, r1, h, fun d v H' hd g2 e2 r2 => post d v H' hd g2 (e1.trans e2) r2⟩
theorem run_fnG {CX : CXT} {sp : Sp} {E : XK} {ds : List Value} {dvs : List V} {pins : List (Addr × Obj)} {σ : L2.St} {H : Hp} {s : Shared} {Q : VK} {us : List Value} {vs : List V} (F : FnG X.prog X.w X.K X.mg X.base CX k f fd ps sp) (hr : RoomG k X.A) (hb : Binds X.K fd ps []) (hx : Passes CX X E)
    (I : Inv X pins σ H s) (r : Vals vs us) (h : sp vs H Q E) : wpAny (model X.prog X.w) X.A (call (.ref f) us) (EP X pins σ Q) X.xe s := by
  have hl : (us ++ []).length = ps.length := by rw [List.append_nil, ← r.length]; exact F.len _ _ _ _ h
  have hb' := hb s us I.kIn hl
  rw [List.append_nil] at hb'
  refine wpAny_call (codeAny_mono (F.run X.A X.stack s H ⟨us, []⟩ us vs Q E hr I.env0 hb' r h) fun r s' hq => ?_)
  cases r with
  | error e => exact hx pins σ H s e s' I hq
  | ok fl =>
    cases fl with
    | ret u => exact I.after hq
    | next => exact False.elim hq
    | brk => exact False.elim hq
    | cont => exact False.elim hq
theorem pe_callG {CX : CXT} {sp : Sp} {E : XK} {t : TA} (F : FnG X.prog X.w X.K X.mg X.base CX k f fd ps sp) (hr : RoomG k X.A) (hg : Gl X x) (hm : X.mg x = some (.ref f)) (hk : PySem.W.keepIn X.K (.ref f) = true) (hb : Binds X.K fd ps []) (hx : Passes CX X E)
    (ha : PA X (e :: es) t) (hdb : (x == ("__debug__" : Str)) = false := by decide) (he : starEach (e :: es) X.env = (false, eval e X.env) :: starEach es X.env := by rfl) (hpl : (backTo pos (starEach es X.env)).any (·.1) = false := by rfl) :
    PE X (.Call (.Name x p) (e :: es) [] pos) (fun σ H Q => t σ H fun vs H1 => sp vs H1 Q E) := by
  refine ⟨fun pins s σ H Q I h => ?_⟩
  refine wpAny_Call_Name_kw (ld_glob I hg hm ?_ hdb)
  refine PySem.W.callWith_K (h₀ := X.base) I.ok.mod.kin hk (thn (ha.run pos pins s σ H _ I h) fun us s1 ⟨vs, H1, I1, r, q⟩ => ⟨I1.kIn, ?_⟩) he hpl
  exact run_fnG (ds := []) (dvs := []) F hr hb hx I1 r q
theorem je_call {t : WA} (G : FnG X.prog X.w X.K X.mg X.base CX0 k f fd ps (spD C0 n df)) (hr : RoomG k X.A) (hg : Gl X x) (hm : X.mg x = some (.ref f)) (hk : PySem.W.keepIn X.K (.ref f) = true) (hb : Binds X.K fd ps []) (ha : PA X (e :: es) (liftA B t)) (hB : B.C = C0.at B.C.aw := by rfl)
    (hdb : (x == ("__debug__" : Str)) = false := by decide) (he : starEach (e :: es) X.env = (false, eval e X.env) :: starEach es X.env := by rfl) (hpl : (backTo pos (starEach es X.env)).any (·.1) = false := by rfl) :
    PE X (.Call (.Name x p) (e :: es) [] pos) (liftE B .c (wCall n df t)) :=
  (pe_callG G hr hg hm hk hb pass0 ha hdb he hpl).weak fun σ H R ⟨ρ, α, P, ok, hw, post⟩ => ⟨ρ, α, _, ok, hw, fun ds vs H1 hd g1 e1 r1 => sp_call (E := E0) hB ok g1 e1 r1 hd.1 hd.2 post⟩
/-- keywords -/
def permL {α : Type} (π : List Nat) (xs : List α) : List α := π.filterMap fun i => xs[i]?
def gK {α : Type} (π : List Nat) (n : Nat) (us ws : List α) : List α := if us.isEmpty = true ∧ ws.length = n then permL π ws else []
theorem vals_perm {zs : List V} {ws : List Value} (r : Vals zs ws) : ∀ π : List Nat, Vals (permL π zs) (permL π ws)
  | [] => .nil
  | i :: π => by
    have ih := vals_perm r π
    unfold permL at ih ⊢
    cases e : zs[i]? with
    | none => rw [List.filterMap_cons_none e, List.filterMap_cons_none (r.none_of e)]; exact ih
    | some z =>
      obtain ⟨u, e2, ru⟩ := r.get e
      rw [List.filterMap_cons_some e, List.filterMap_cons_some e2]
      exact .cons ru ih
theorem kbinds {K : PySem.W.Frag} {x qual : Str} {st : Stmt} {f : Addr} {fd : FuncData} {ps ks : List Str} {π : List Nat} {n : Nat} (F : Fun K x qual st f fd) (hps : ps ≠ [])
    (h : ∀ (kV doc pm : Value) (an : Option Addr) (cdv ct : Value) (ws : List Value), ws.length = n → bindArgs (PySem.W.fnOf x qual (defArgs st) (defBody st) (defScope st) .none kV doc pm an cdv ct) ⟨[], ks.zip ws⟩ = pure (ps.zip (permL π ws))) : KBinds K fd ps ks (gK π n) (gK π n) := by
  obtain ⟨oc, od, kV, doc, pm, an, cdv, ct, osl, rfl, lk, hcd⟩ := F.ex
  refine ⟨fun s us ws _ hl => ?_, fun {vs us zs ws} r rz => ?_⟩
  · unfold gK at hl ⊢
    by_cases c : us.isEmpty = true ∧ ws.length = n
    · rw [if_pos c] at hl ⊢
      have hu : us = [] := List.isEmpty_iff.mp c.1
      subst hu
      exact .of_eq (h _ _ _ _ _ _ _ c.2)
    · rw [if_neg c] at hl
      exact absurd (List.eq_nil_of_length_eq_zero hl.symm) hps
  · have e1 : vs.isEmpty = us.isEmpty := by cases r <;> rfl
    have e2 := rz.length
    unfold gK
    by_cases c : us.isEmpty = true ∧ ws.length = n
    · rw [if_pos c, if_pos ⟨e1.trans c.1, e2.trans c.2⟩]
      exact vals_perm rz π
    · rw [if_neg c, if_neg fun z => c ⟨e1.symm.trans z.1, e2.symm.trans z.2⟩]
      exact .nil
variable {kws : List Keyword} {ks : List Str}
theorem pe_callK0 {CX : CXT} {sp : Sp} {E : XK} {tk : TA} {g : List Value → List Value → List Value} {gV : List V → List V → List V} (F : FnG X.prog X.w X.K X.mg X.base CX k f fd ps sp) (hr : RoomG k X.A) (hg : Gl X x) (hm : X.mg x = some (.ref f)) (hk : PySem.W.keepIn X.K (.ref f) = true) (hb : KBinds X.K fd ps ks g gV) (hx : Passes CX X E)
    (hkw : PK X kws tk) (hall : (backToKw pos (keywordEach kws X.env)).all (·.1.isSome) = true := by rfl) (hks : (backToKw pos (keywordEach kws X.env)).filterMap (·.1) = ks := by rfl) (hdb : (x == ("__debug__" : Str)) = false := by decide)
    (hpl : ((backTo pos (starEach [] X.env)).any (·.1) || (backToKw pos (keywordEach kws X.env)).any (·.1.isNone)) = false := by rfl) :
    PE X (.Call (.Name x p) [] kws pos) (fun σ H Q => tk σ H fun zs H2 => sp (gV [] zs) H2 Q E) := by
  refine ⟨fun pins s σ H Q I h => ?_⟩
  refine wpAny_Call_Name_kw (ld_glob I hg hm ?_ hdb)
  refine PySem.W.callWith_KW0 (h₀ := X.base) I.ok.mod.kin hk hall (thn (hkw.run pos pins s σ H _ I h) fun ws s2 ⟨zs, H2, I2, rz, q2⟩ => ⟨I2.kIn, ?_⟩) hpl
  rw [hks]
  have r2 := hb.rel (vs := []) (us := []) .nil rz
  have hl : (g [] ws).length = ps.length := by rw [← r2.length]; exact F.len _ _ _ _ q2
  refine wpAny_call (codeAny_mono (F.run X.A X.stack s2 H2 ⟨[], ks.zip ws⟩ (g [] ws) (gV [] zs) Q E hr I2.env0 (hb.to s2 [] ws I2.kIn hl) r2 q2) fun r s' hq => ?_)
  cases r with
  | error e => exact hx pins σ H2 s2 e s' I2 hq
  | ok fl =>
    cases fl with
    | ret u => exact I2.after hq
    | next => exact False.elim hq
    | brk => exact False.elim hq
    | cont => exact False.elim hq
def wCallK (n : Nat) (π : List Nat) (df : DF) (t : WA) : WE := fun ρ Q => t ρ fun ds => ds.length = n ∧ (permL π ds).length = n ∧ df (permL π ds) Q
theorem RpL.perm {C : DC} {O : Addr → Prop} {H : Hp} {ds : List D} {vs : List V} (r : RpL C O H ds vs) : ∀ π : List Nat, RpL C O H (permL π ds) (permL π vs)
  | [] => RpL.nil
  | i :: π => by
    have ih := RpL.perm r π
    unfold permL at ih ⊢
    cases e : ds[i]? with
    | none =>
      have e2 : vs[i]? = none := by
        have hl := r.length
        have q := List.getElem?_eq_none_iff.mp e
        exact List.getElem?_eq_none_iff.mpr (by omega)
      rw [List.filterMap_cons_none e, List.filterMap_cons_none e2]; exact ih
    | some z =>
      obtain ⟨u, e2, ru⟩ := r.get e
      rw [List.filterMap_cons_some e, List.filterMap_cons_some e2]
      exact RpL.cons ru ih
theorem jk_nil : PK X [] (liftA B wNil) := ⟨fun pos pins s σ H R I ⟨ρ, α, P, E, hw, post⟩ => pk_nil.run pos pins s σ H R I (post [] [] H hw E.gi Ext.refl RpL.nil)⟩
theorem jk_cons {fl : Fl} {nm : Option Str} {kpos : Pos} {t : WE} {u : WA} (h : PE X e (liftE B fl t)) (k : PK X kws (liftA B u)) (hf : fl ≠ .t := by intro z; cases z) : PK X (⟨nm, e, kpos⟩ :: kws) (liftA B (wCons t u)) :=
  ⟨fun pos pins s σ H R I ⟨ρ, α, P, E, hw, post⟩ => (pk_cons (h.toC hf) k).run pos pins s σ H R I ⟨ρ, α, _, E, hw, fun d v H1 hd g1 e1 r1 => ⟨ρ, α, _, E.ext g1 e1, hd, fun ds vs H2 hds g2 e2 r2 =>
    post (d :: ds) (v :: vs) H2 hds g2 (e1.trans e2) (RpL.cons (Rp.ext g1 e2 r1) r2)⟩⟩⟩
theorem je_callK {t : WA} {π : List Nat} (G : FnG X.prog X.w X.K X.mg X.base CX0 k f fd ps (spD C0 n df)) (hr : RoomG k X.A) (hg : Gl X x) (hm : X.mg x = some (.ref f)) (hk : PySem.W.keepIn X.K (.ref f) = true) (hb : KBinds X.K fd ps ks (gK π n) (gK π n)) (ha : PK X kws (liftA B t)) (hB : B.C = C0.at B.C.aw := by rfl)
    (hall : (backToKw pos (keywordEach kws X.env)).all (·.1.isSome) = true := by rfl) (hks : (backToKw pos (keywordEach kws X.env)).filterMap (·.1) = ks := by rfl) (hdb : (x == ("__debug__" : Str)) = false := by decide)
    (hpl : ((backTo pos (starEach [] X.env)).any (·.1) || (backToKw pos (keywordEach kws X.env)).any (·.1.isNone)) = false := by rfl) :
    PE X (.Call (.Name x p) [] kws pos) (liftE B .c (wCallK n π df t)) :=
  (pe_callK0 G hr hg hm hk hb pass0 ha hall hks hdb hpl).weak fun σ H R ⟨ρ, α, P, ok, hw, post⟩ => ⟨ρ, α, _, ok, hw, fun ds vs H1 hd g1 e1 r1 => by
    have e : gK π n [] vs = permL π vs := by
      unfold gK
      rw [if_pos ⟨rfl, by rw [r1.length]; exact hd.1⟩]
    show spD C0 n df (gK π n [] vs) H1 R E0
    rw [e]
    exact sp_call hB ok g1 e1 (r1.perm π) hd.2.1 hd.2.2 post⟩
end
end DL

set_option Elab.async false
set_option linter.all false
set_option maxRecDepth 100000
namespace DL
open PySem PySem.Spec PyProof.Rows L2 NdefX LamX

/-! ### data as the model's plain data -/
mutual
def D.py : D → PyData
  | .non => .none
  | .bl b => .bool b
  | .int i => .int i
  | .str x => .str x
  | .tup ds => .tuple (D.pyL ds)
  | .lst ds => .list (D.pyL ds)
  | .par x y => .tuple [D.py x, D.py y]
  | .dik _ _ => .none
  | .dit _ _ => .none
  | .fn _ => .none
  | .well => .none
  | .scr _ => .none
def D.pyL : List D → List PyData
  | [] => []
  | d :: ds => D.py d :: D.pyL ds
end
mutual
def D.isPy : D → Bool
  | .non => true
  | .bl _ => true
  | .int _ => true
  | .str _ => true
  | .tup ds => D.isPyL ds
  | .lst ds => D.isPyL ds
  | .par x y => D.isPy x && D.isPy y
  | .dik _ _ => false
  | .dit _ _ => false
  | .fn _ => false
  | .well => false
  | .scr _ => false
def D.isPyL : List D → Bool
  | [] => true
  | d :: ds => D.isPy d && D.isPyL ds
end
section
variable {C : DC} {O : Addr → Prop} {H : Hp}
mutual
theorem dp_of : ∀ {d : D} {v : V}, d.isPy = true → Rp C O H d v → Dp C.K H v d.py
  | .non, v, _, h => by rw [rp_non.mp h]; exact .non
  | .bl b, v, _, h => by rw [rp_bl.mp h]; exact .bl b
  | .int i, v, _, h => by rw [rp_int.mp h]; exact .int i
  | .str x, v, _, h => by rw [rp_str.mp h]; exact .str x
  | .tup ds, v, p, h => by
    obtain ⟨a, xs, rfl, q, r⟩ := rp_tup.mp h
    exact .tup q.sq (dpL_of (by unfold D.isPy at p; exact p) r)
  | .lst ds, v, p, h => by
    obtain ⟨a, xs, rfl, _, _, q, r⟩ := rp_lst.mp h
    exact .lst (SqL.of q) (dpL_of (by unfold D.isPy at p; exact p) r)
  | .par x y, v, p, h => by
    unfold Rp at h
    obtain ⟨a, x', y', rfl, q, r1, r2⟩ := h
    unfold D.isPy at p
    rw [Bool.and_eq_true] at p
    exact .tup q (.cons (dp_of p.1 r1) (.cons (dp_of p.2 r2) .nil))
  | .dik _ _, _, p, _ => by unfold D.isPy at p; cases p
  | .dit _ _, _, p, _ => by unfold D.isPy at p; cases p
  | .fn _, _, p, _ => by unfold D.isPy at p; cases p
  | .well, _, p, _ => by unfold D.isPy at p; cases p
  | .scr _, _, p, _ => by unfold D.isPy at p; cases p
theorem dpL_of : ∀ {ds : List D} {vs : List V}, D.isPyL ds = true → RpL C O H ds vs → DpAll C.K H vs (D.pyL ds)
  | [], vs, _, h => by rw [rl_nil.mp h]; exact .nil
  | d :: ds, vs, p, h => by
    obtain ⟨v, ws, rfl, r, t⟩ := rl_cons.mp h
    unfold D.isPyL at p
    rw [Bool.and_eq_true] at p
    exact .cons (dp_of p.1 r) (dpL_of p.2 t)
end
theorem dp_top {d : D} {v : V} (p : d.isPy = true) (h : RpT C O H d v) : Dp C.K H v d.py := by
  cases d with
  | lst ds =>
    obtain ⟨a, xs, rfl, _, q, r⟩ := rt_lst h
    exact .lst (SqL.of q) (dpL_of (by unfold D.isPy at p; exact p) r)
  | dik _ _ => unfold D.isPy at p; cases p
  | dit _ _ => unfold D.isPy at p; cases p
  | _ => exact dp_of p (show Rp C O H _ v from h)
end

theorem opr_weak {X : Cx} {f : Value → Value → Sem Value} {r r' : R2} (h : OpR X f r) (w : ∀ x y H R, r' x y H R → r x y H R) : OpR X f r' := fun pins s σ H x y v u Q I rx ry q => h pins s σ H x y v u Q I rx ry (w _ _ _ _ q)

/-! ### == and != -/
def dEq : D2 := fun d e Q => (d.isPy = true ∧ e.isPy = true ∧ SeqAt.shaped d.py = true ∧ SeqAt.shaped e.py = true) ∧ Q (.bl (PyData.eqv d.py e.py))
def dNe : D2 := fun d e Q => (d.isPy = true ∧ e.isPy = true ∧ SeqAt.shaped d.py = true ∧ SeqAt.shaped e.py = true) ∧ Q (.bl (!PyData.eqv d.py e.py))
section
variable {X : Cx} {C : DC}
theorem op_deq (hK : X.K = C.K) (hu : X.A.units + 64 < cLine) : OpR X (compareOp .Eq) (rD2 C .c dEq) := opr_weak (op_eqD hu) fun x y H R ⟨O, d, e, P, g, on, r1, r2, ⟨⟨p1, p2, s1, s2⟩, h⟩, post⟩ =>
  ⟨d.py, e.py, by rw [hK]; exact dp_top p1 r1, by rw [hK]; exact dp_top p2 r2, s1, s2, post _ _ H h g Ext.refl pc_bl⟩
theorem op_dne (hK : X.K = C.K) (hu : X.A.units + 64 < cLine) : OpR X (compareOp .NotEq) (rD2 C .c dNe) := opr_weak (op_neD hu) fun x y H R ⟨O, d, e, P, g, on, r1, r2, ⟨⟨p1, p2, s1, s2⟩, h⟩, post⟩ =>
  ⟨d.py, e.py, by rw [hK]; exact dp_top p1 r1, by rw [hK]; exact dp_top p2 r2, s1, s2, post _ _ H h g Ext.refl pc_bl⟩

/-! ### <, <=, >, >= of ints, of texts -/
def dCmp (p : Int → Int → Bool) (q : Str → Str → Bool) : D2 := fun d e Q => match d, e with
  | .int i, .int j => Q (.bl (p i j))
  | .str x, .str y => Q (.bl (q x y))
  | _, _ => False
def strLt (x y : Str) : Bool := decide (x.cps.toList < y.cps.toList)
abbrev dLt : D2 := dCmp (fun i j => decide (i < j)) strLt
abbrev dLe : D2 := dCmp (fun i j => decide (i ≤ j)) (fun x y => !strLt y x)
abbrev dGt : D2 := dCmp (fun i j => decide (j < i)) (fun x y => strLt y x)
abbrev dGe : D2 := dCmp (fun i j => decide (j ≤ i)) (fun x y => !strLt x y)
theorem op_dcmp {op : CmpOp} {p : Int → Int → Bool} {q : Str → Str → Bool} (h1 : OpR X (compareOp op) (rI0 fun i j => .bl (p i j))) (h2 : OpR X (compareOp op) (fun x y H Q => ∃ i j, x = .str i ∧ y = .str j ∧ Q (.bl (q i j)) H)) : OpR X (compareOp op) (rD2 C .c (dCmp p q)) :=
  opr_weak (h1.or h2) fun x y H R ⟨O, d, e, P, g, on, r1, r2, h, post⟩ => by
    cases d <;> cases e <;> first
      | exact False.elim h
      | exact .inl ⟨_, _, rt_int r1, rt_int r2, post _ _ H h g Ext.refl pc_bl⟩
      | exact .inr ⟨_, _, rt_str r1, rt_str r2, post _ _ H h g Ext.refl pc_bl⟩
theorem op_dlt : OpR X (compareOp .Lt) (rD2 C .c dLt) := op_dcmp op_lt op_lt_str
theorem op_dle : OpR X (compareOp .LtE) (rD2 C .c dLe) := op_dcmp op_le op_le_str
theorem op_dgt : OpR X (compareOp .Gt) (rD2 C .c dGt) := op_dcmp op_gt op_gt_str
theorem op_dge : OpR X (compareOp .GtE) (rD2 C .c dGe) := op_dcmp op_ge op_ge_str

/-! ### in, not in -/
def D.flat : D → Bool
  | .non => true
  | .bl _ => true
  | .int _ => true
  | .str _ => true
  | _ => false
theorem flat_rp {O : Addr → Prop} {H : Hp} {d : D} {v : V} (f : d.flat = true) (h : Rp C O H d v) : flatV v = true := by
  cases d with
  | non => rw [rp_non.mp h]; rfl
  | bl b => rw [rp_bl.mp h]; rfl
  | int b => rw [rp_int.mp h]; rfl
  | str b => rw [rp_str.mp h]; rfl
  | _ => cases f
theorem flat_eqv {O : Addr → Prop} {H : Hp} {d e : D} {v u : V} (f : d.flat = true) (f' : e.flat = true) (h : Rp C O H d v) (h' : Rp C O H e u) : eqV v u = PyData.eqv d.py e.py := by
  cases d <;> first
    | cases f; done
    | skip
  all_goals (cases e <;> first | cases f'; done | skip)
  all_goals first
    | rw [rp_non.mp h] | rw [rp_bl.mp h] | rw [rp_int.mp h] | rw [rp_str.mp h]
  all_goals first
    | rw [rp_non.mp h'] | rw [rp_bl.mp h'] | rw [rp_int.mp h'] | rw [rp_str.mp h']
  all_goals (simp only [eqV, D.py, PyData.eqv])
theorem flat_top {O : Addr → Prop} {H : Hp} {d : D} {v : V} (f : d.flat = true) (h : RpT C O H d v) : Rp C O H d v := by
  cases d <;> first
    | exact h
    | cases f
theorem flat_all {O : Addr → Prop} {H : Hp} {ds : List D} {vs : List V} (f : ds.all D.flat = true) (h : RpL C O H ds vs) : vs.all flatV = true := by
  induction ds generalizing vs with
  | nil => rw [rl_nil.mp h]; rfl
  | cons d ds ih =>
    obtain ⟨v, ws, rfl, r, t⟩ := rl_cons.mp h
    rw [List.all_cons, Bool.and_eq_true] at f ⊢
    exact ⟨flat_rp f.1 r, ih f.2 t⟩
theorem flat_in {O : Addr → Prop} {H : Hp} {ds : List D} {vs : List V} {d : D} {v : V} (f : ds.all D.flat = true) (h : RpL C O H ds vs) (f' : d.flat = true) (h' : Rp C O H d v) : inV v vs = ds.any fun e => PyData.eqv e.py d.py := by
  unfold inV
  induction ds generalizing vs with
  | nil => rw [rl_nil.mp h]; rfl
  | cons e ds ih =>
    obtain ⟨u, ws, rfl, r, t⟩ := rl_cons.mp h
    rw [List.all_cons, Bool.and_eq_true] at f
    rw [List.any_cons, List.any_cons, ih f.2 t, flat_eqv f.1 f' r h']
/-- d in e; e a text and d one sign, or e a list or tuple of flat things -/
def dInB (neg : Bool) : D2 := fun d e Q => match e with
  | .lst es => (d.flat = true ∧ es.all D.flat = true) ∧ Q (.bl (if neg then !es.any (fun x => PyData.eqv x.py d.py) else es.any (fun x => PyData.eqv x.py d.py)))
  | .tup es => (d.flat = true ∧ es.all D.flat = true) ∧ Q (.bl (if neg then !es.any (fun x => PyData.eqv x.py d.py) else es.any (fun x => PyData.eqv x.py d.py)))
  | .str z => match d with
    | .str x => x.cps.size = 1 ∧ Q (.bl (if neg then !decide (x.cps.getD 0 0 ∈ z.cps.toList) else decide (x.cps.getD 0 0 ∈ z.cps.toList)))
    | _ => False
  | _ => False
abbrev dIn : D2 := dInB false
abbrev dNotIn : D2 := dInB true
theorem one_sign {x : Str} (h : x.cps.size = 1) : x = ⟨#[x.cps.getD 0 0]⟩ := by
  obtain ⟨⟨l⟩⟩ := x
  match l, h with
  | [c], _ => rfl
theorem op_din_gen {neg : Bool} {op : CmpOp} (hK : X.K = C.K) (h1 : OpR X (compareOp op) (rIn X.K neg)) (h2 : OpR X (compareOp op) (fun x y H Q => ∃ (c : Nat) (z : Str), x = .str ⟨#[c]⟩ ∧ y = .str z ∧ Q (.bl (if neg then !decide (c ∈ z.cps.toList) else decide (c ∈ z.cps.toList))) H)) : OpR X (compareOp op) (rD2 C .c (dInB neg)) :=
  opr_weak (h1.or h2) fun x y H R ⟨O, d, e, P, g, on, r1, r2, h, post⟩ => by
    cases e with
    | lst es =>
      obtain ⟨⟨f1, f2⟩, h⟩ := h
      obtain ⟨a, xs, rfl, _, q, r⟩ := rt_lst r2
      refine .inl ⟨a, xs, rfl, .inl (SqL.of q), flat_rp f1 (flat_top f1 r1), flat_all f2 r, ?_⟩
      rw [flat_in f2 r f1 (flat_top f1 r1)]
      exact post _ _ H h g Ext.refl pc_bl
    | tup es =>
      obtain ⟨⟨f1, f2⟩, h⟩ := h
      obtain ⟨a, xs, rfl, q, r⟩ := rt_tup r2
      refine .inl ⟨a, xs, rfl, .inr (by rw [hK]; exact q.sq), flat_rp f1 (flat_top f1 r1), flat_all f2 r, ?_⟩
      rw [flat_in f2 r f1 (flat_top f1 r1)]
      exact post _ _ H h g Ext.refl pc_bl
    | str z =>
      cases d with
      | str x =>
        obtain ⟨hs, h⟩ := h
        refine .inr ⟨x.cps.getD 0 0, z, by rw [rt_str r1]; exact congrArg V.str (one_sign hs), rt_str r2, post _ _ H h g Ext.refl pc_bl⟩
      | _ => exact False.elim h
    | _ => exact False.elim h
theorem op_din (hK : X.K = C.K) : OpR X (compareOp .In) (rD2 C .c dIn) := op_din_gen (neg := false) hK op_in_seq op_in_sign
theorem op_dnotin (hK : X.K = C.K) : OpR X (compareOp .NotIn) (rD2 C .c dNotIn) := op_din_gen (neg := true) hK op_notIn_seq op_notIn_sign

/-! ### is None, is not None, is True, is not True -/
def dIs (neg : Bool) : D2 := fun d e Q => match e with
  | .non => match d with
    | .non => Q (.bl !neg)
    | _ => Q (.bl neg)
  | .bl b => match d with
    | .bl a => Q (.bl (if neg then !decide (a = b) else decide (a = b)))
    | _ => False
  | _ => False
theorem rt_isnon {O : Addr → Prop} {H : Hp} {d : D} {v : V} (h : RpT C O H d v) (hd : d ≠ .non) : v ≠ .non := by
  intro e
  subst e
  cases d with
  | non => exact hd rfl
  | bl _ => cases rt_bl h
  | int _ => cases rt_int h
  | str _ => cases rt_str h
  | tup _ => obtain ⟨_, _, q, _⟩ := rt_tup h; cases q
  | lst _ => obtain ⟨_, _, q, _⟩ := rt_lst h; cases q
  | dik _ _ => obtain ⟨_, _, q, _⟩ := h; cases q
  | dit _ _ => obtain ⟨_, _, q, _⟩ := h; cases q
  | fn _ => have h : Rp C O H _ _ := h; unfold Rp at h; cases h
  | par _ _ => have h : Rp C O H _ _ := h; unfold Rp at h; obtain ⟨_, _, _, q, _⟩ := h; cases q
  | well => have h : Rp C O H _ _ := h; unfold Rp at h; obtain ⟨_, _, q⟩ := h; cases q
  | scr _ => have h : Rp C O H _ _ := h; unfold Rp at h; obtain ⟨_, q, _⟩ := h; cases q
theorem op_dis_gen {neg : Bool} {op : CmpOp} (h1 : OpR X (compareOp op) (fun x y H Q => y = .non ∧ Q (.bl (if neg then !decide (x = .non) else decide (x = .non))) H)) (h2 : OpR X (compareOp op) (fun x y H Q => ∃ a b : Bool, x = .bl a ∧ y = .bl b ∧ Q (.bl (if neg then !decide (a = b) else decide (a = b))) H)) : OpR X (compareOp op) (rD2 C .c (dIs neg)) :=
  opr_weak (h1.or h2) fun x y H R ⟨O, d, e, P, g, on, r1, r2, h, post⟩ => by
    cases e with
    | non =>
      refine .inl ⟨rt_non r2, ?_⟩
      by_cases hd : d = .non
      · subst hd
        rw [rt_non r1]
        refine post _ _ H h g Ext.refl ?_
        cases neg <;> exact pc_bl
      · have hx := rt_isnon r1 hd
        have h : P (.bl neg) := by cases d <;> first | exact h | exact absurd rfl hd
        rw [decide_eq_false hx]
        refine post _ _ H h g Ext.refl ?_
        cases neg <;> exact pc_bl
    | bl b =>
      cases d with
      | bl a => exact .inr ⟨a, b, rt_bl r1, rt_bl r2, post _ _ H h g Ext.refl pc_bl⟩
      | _ => exact False.elim h
    | _ => exact False.elim h
theorem op_dis : OpR X (compareOp .Is) (rD2 C .c (dIs false)) := op_dis_gen op_isN op_isBl
theorem op_disnot : OpR X (compareOp .IsNot) (rD2 C .c (dIs true)) := op_dis_gen op_notN op_notBl
end
end DL

set_option Elab.async false
set_option linter.all false
set_option maxRecDepth 100000
set_option maxHeartbeats 4000000
namespace DL
open PySem PySem.Spec PyProof.Rows L2 NdefX LamX

section
variable {X : Cx} {C : DC}
/-! ### + -/
theorem laidF {pins : List (Addr × Obj)} {σ : L2.St} {H : Hp} {s : Shared} {its : List Value} {xs : List V} {tk : Nat} (I : Inv X pins σ H s) (r : Vals xs its) (hz : xs.length ≤ sizeLine) :
    Inv X pins σ (upd H s.heap.objs.size (.frz { cls := .type "tuple", data := .seq its.toArray } (.tup xs))) { s with heap := s.heap.push { cls := .type "tuple", data := .seq its.toArray }, toks := tk } :=
  I.laid (fun b ob q => Heap.get?_push_of_some _ q) (Nat.le_refl _) ⟨Heap.get?_push_size _ rfl, hz, its, r, ⟨_, Heap.get?_push_size _ rfl, rfl, _, rfl⟩⟩
def rCatF (K : PySem.W.Frag) : R2 := fun x y H Q => ∃ a b xs ys, x = .ref a ∧ y = .ref b ∧ SqT K H a xs ∧ SqT K H b ys ∧ xs.length + ys.length ≤ sizeLine ∧
  (xs = [] → Q (.ref b) H) ∧ (xs ≠ [] → ys = [] → Q (.ref a) H) ∧ (xs ≠ [] → ys ≠ [] → ∀ p o, o.dict = none → H p = none → Q (.ref p) (upd H p (.frz o (.tup (xs ++ ys)))))
theorem op_catF : OpR X (binaryOp .Add) (rCatF X.K) := by
  intro pins s σ H x y v u Q I rx ry h
  obtain ⟨a, b, xs, ys, rfl, rfl, ha, hb, hz, q0, q1, q2⟩ := h
  cases rx
  cases ry
  obtain ⟨its, r1, p1, _⟩ := I.tuple ha
  obtain ⟨its2, r2, p2, _⟩ := I.tuple hb
  by_cases hx : xs = []
  · subst hx
    cases r1
    exact cat_tup0 p1 p2 ⟨.ref b, H, I, rfl, q0 rfl⟩
  · refine HT.cat_tup p1 p2 (fun z => hx (r1.nil_iff.mp z)) (fun z => ⟨.ref a, H, I, rfl, q1 hx (r2.nil_iff.mp z)⟩) (fun z => ?_) (by rw [← r1.length, ← r2.length]; exact hz)
    exact ⟨.ref s.heap.objs.size, _, laidF (tk := s.toks) I (r1.append r2) (by rw [List.length_append]; exact hz), rfl, q2 hx (fun w => z (r2.nil_iff.mpr w)) _ _ rfl (I.hok.fresh (Nat.le_refl _))⟩
def dAdd : D2 := fun d e Q => match d, e with
  | .int i, .int j => Q (.int (i + j))
  | .str x, .str y => x.length + y.length ≤ sizeLine ∧ Q (.str (x ++ y))
  | .tup xs, .tup ys => xs.length + ys.length ≤ sizeLine ∧ Q (.tup (xs ++ ys))
  | .lst xs, .lst ys => xs.length + ys.length ≤ sizeLine ∧ Q (.lst (xs ++ ys))
  | _, _ => False
theorem rl_empty {O : Addr → Prop} {H : Hp} {ds : List D} (h : RpL C O H ds []) : ds = [] := by
  cases ds with
  | nil => rfl
  | cons d ds => obtain ⟨_, _, q, _⟩ := rl_cons.mp h; cases q
theorem op_dadd (hK : X.K = C.K) : OpR X (binaryOp .Add) (rD2 C .c dAdd) :=
  opr_weak (op_add.or (op_add_str.or (op_catF.or op_cat))) fun x y H R ⟨O, d, e, P, g, on, r1, r2, h, post⟩ => by
    cases d <;> cases e <;> first
      | exact False.elim h
      | exact .inl ⟨_, _, rt_int r1, rt_int r2, post _ _ H h g Ext.refl pc_int⟩
      | exact .inr (.inl ⟨_, _, rt_str r1, rt_str r2, h.1, post _ _ H h.2 g Ext.refl pc_str⟩)
      | (obtain ⟨a, xs, e1, q1, s1⟩ := rt_tup r1
         obtain ⟨b, ys, e2, q2, s2⟩ := rt_tup r2
         refine .inr (.inr (.inl ⟨a, b, xs, ys, e1, e2, by rw [hK]; exact q1.sq, by rw [hK]; exact q2.sq, by rw [s1.length, s2.length]; exact h.1, fun z => ?_, fun z w => ?_, fun z w p o ho hn => ?_⟩))
         · subst z
           have := rl_empty s1
           subst this
           exact post _ _ H h.2 g Ext.refl (rp_tup.mpr ⟨b, ys, rfl, q2, s2⟩)
         · subst w
           have := rl_empty s2
           subst this
           have h2 := h.2
           rw [List.append_nil] at h2
           exact post _ _ H h2 g Ext.refl (rp_tup.mpr ⟨a, xs, rfl, q1, s1⟩)
         · exact post _ _ _ h.2 (g.new hn) (Ext.new hn) (rp_newtup g hn ho (s1.app s2)))
      | (obtain ⟨a, xs, e1, _, q1, s1⟩ := rt_lst r1
         obtain ⟨b, ys, e2, _, q2, s2⟩ := rt_lst r2
         exact .inr (.inr (.inr ⟨a, b, xs, ys, e1, e2, q1, q2, by rw [s1.length, s2.length]; exact h.1, fun p hn =>
           post _ _ _ h.2 (g.new hn) (Ext.new hn) (rt_clean (on.new hn) (rt_newlst g hn (s1.app s2)))⟩)))
/-- of lists, a new one -/
def dAddL : D2 := fun d e Q => match d, e with
  | .lst xs, .lst ys => xs.length + ys.length ≤ sizeLine ∧ Q (.lst (xs ++ ys))
  | _, _ => False
theorem op_daddL : OpR X (binaryOp .Add) (rD2 C .n dAddL) :=
  opr_weak op_cat fun x y H R ⟨O, d, e, P, g, on, r1, r2, h, post⟩ => by
    cases d <;> cases e <;> first
      | exact False.elim h
      | (obtain ⟨a, xs, e1, _, q1, s1⟩ := rt_lst r1
         obtain ⟨b, ys, e2, _, q2, s2⟩ := rt_lst r2
         exact ⟨a, b, xs, ys, e1, e2, q1, q2, by rw [s1.length, s2.length]; exact h.1, fun p hn =>
           post _ _ _ h.2 (g.new hn) (Ext.new hn) ⟨p, rfl, hn, rt_newlst g hn (s1.app s2)⟩⟩)
/-! ### -, *, //, %, ** of ints -/
def dInt (c : Int → Int → Prop) (f : Int → Int → Int) : D2 := fun d e Q => match d, e with
  | .int i, .int j => c i j ∧ Q (.int (f i j))
  | _, _ => False
theorem op_dint {f : Value → Value → Sem Value} {c : Int → Int → Prop} {g : Int → Int → Int} (h : OpR X f (rI c fun i j => .int (g i j))) : OpR X f (rD2 C .c (dInt c g)) :=
  opr_weak h fun x y H R ⟨O, d, e, P, g, on, r1, r2, h, post⟩ => by
    cases d <;> cases e <;> first
      | exact False.elim h
      | exact ⟨_, _, rt_int r1, rt_int r2, h.1, post _ _ H h.2 g Ext.refl pc_int⟩
def dSub : D2 := fun d e Q => match d, e with
  | .int i, .int j => Q (.int (i - j))
  | _, _ => False
theorem op_dsub : OpR X (binaryOp .Sub) (rD2 C .c dSub) :=
  opr_weak op_sub fun x y H R ⟨O, d, e, P, g, on, r1, r2, h, post⟩ => by
    cases d <;> cases e <;> first
      | exact False.elim h
      | exact ⟨_, _, rt_int r1, rt_int r2, post _ _ H h g Ext.refl pc_int⟩
abbrev dMul : D2 := dInt CMul fun i j => i * j
abbrev dFDiv : D2 := dInt CDiv fun i j => i / j
abbrev dMod : D2 := dInt (fun _ j => 0 < j) fun i j => i % j
abbrev dPow : D2 := dInt CPow fun i j => i ^ j.toNat
theorem op_dmul : OpR X (binaryOp .Mult) (rD2 C .c dMul) := op_dint op_mul
theorem op_dfdiv : OpR X (binaryOp .FloorDiv) (rD2 C .c dFDiv) := op_dint op_fdiv
theorem op_dmod : OpR X (binaryOp .Mod) (rD2 C .c dMod) := op_dint op_mod
theorem op_dpow : OpR X (binaryOp .Pow) (rD2 C .c dPow) := op_dint op_pow

/-! ### one thing -/
abbrev D1 := D → (D → Prop) → Prop
def rD1 (C : DC) (fl : Fl) (op : D1) : V → Hp → VK → Prop := fun x H R => ∃ O d P, GI C H ∧ ON C O H ∧ RpT C O H d x ∧ op d P ∧ ∀ r v H', P r → GI C H' → Ext C H H' → Post C O H H' fl r v → R v H'
def wUn (op : D1) (t : WE) : WE := fun ρ Q => t ρ fun d => op d Q
variable {B : BX} {e e2 : Expr} {pos : Pos} {fl f1 f2 : Fl}
theorem je_un {op : UnaryOp} {d1 : D1} {t : WE} (ho : UnR X (unaryOp op) (rD1 B.C fl d1)) (h : PE X e (liftE B f1 t)) : PE X (.UnaryOp op e pos) (liftE B fl (wUn d1 t)) :=
  (pe_un ho h.toT).weak fun σ H R ⟨ρ, α, P, E, hw, post⟩ => ⟨ρ, α, _, E, hw, fun d x H1 hd g1 e1 r1 =>
    ⟨_, d, P, g1, E.on.ext e1, r1.rt, hd, fun r v H' hr g2 e2 rr => post r v H' hr g2 (e1.trans e2) (rr.before g1 e1)⟩⟩
def dNeg : D1 := fun d Q => match d with
  | .int i => Q (.int (-i))
  | _ => False
theorem un_dneg : UnR X (unaryOp .USub) (rD1 C .c dNeg) := fun pins s σ H x v R I rx ⟨O, d, P, g, on, r, h, post⟩ => un_neg pins s σ H x v R I rx (by
  cases d <;> first
    | exact False.elim h
    | exact ⟨_, rt_int r, post _ _ H h g Ext.refl pc_int⟩)

/-! ### subscripts -/
def dIx : D2 := fun d e Q => match e with
  | .int i => match d with
    | .lst ds => ∃ x, atI ds i = some x ∧ Q x
    | .tup ds => ∃ x, atI ds i = some x ∧ Q x
    | .str z => ∃ c, z.length ≤ sizeLine ∧ atI z.cps.toList i = some c ∧ Q (.str ⟨#[c]⟩)
    | .scr ns => ∃ n, atI ns i = some n ∧ Q (.int n)
    | _ => False
  | _ => False
theorem rl_at {O : Addr → Prop} {H : Hp} {ds : List D} {vs : List V} {i : Int} {d : D} (r : RpL C O H ds vs) (h : atI ds i = some d) : ∃ v, atI vs i = some v ∧ Rp C O H d v := by
  unfold atI at h ⊢
  rw [r.length]
  cases q : ixN ds.length i with
  | none => rw [q] at h; cases h
  | some j =>
    rw [q] at h
    exact r.get (show ds[j]? = some d from h)
theorem at_map {ns : List Int} {i n : Int} (h : atI ns i = some n) : atI (ns.map V.int) i = some (.int n) := by
  unfold atI at h ⊢
  rw [List.length_map]
  cases q : ixN ns.length i with
  | none => rw [q] at h; cases h
  | some j =>
    rw [q] at h
    show (ns.map V.int)[j]? = _
    rw [List.getElem?_map, show ns[j]? = some n from h]; rfl
theorem je_ix {ta tb : WE} (hK : X.K = B.C.K) (ha : PE X e (liftE B f1 ta)) (hb : PE X e2 (liftE B f2 tb)) (hs : PlainIx e2 := by intro _ _; rfl) : PE X (.Subscript e e2 pos) (liftE B .c (wBin dIx ta tb)) :=
  (pe_ix ix_seq ha.toT hb.toT hs).weak fun σ H R ⟨ρ, α, P, E, hw, post⟩ =>
    ⟨ρ, α, _, E, hw, fun d x H1 hd g1 e1 r1 => ⟨ρ, α, _, E.ext g1 e1, hd, fun e y H2 he g2 e2 r2 => by
      have r1 := RpT.ext g1 e2 r1.rt
      cases e <;> first
        | exact False.elim he
        | skip
      cases d <;> first
        | exact False.elim he
        | (obtain ⟨x, hx, hp⟩ := he
           obtain ⟨a, xs, ea, _, q, r⟩ := rt_lst r1
           obtain ⟨v, hv, rv⟩ := rl_at r hx
           exact .inl ⟨a, xs, _, v, ea, rt_int r2.rt, SqL.of q, hv, post _ _ _ hp g2 (e1.trans e2) rv⟩)
        | (obtain ⟨x, hx, hp⟩ := he
           obtain ⟨a, xs, ea, q, r⟩ := rt_tup r1
           obtain ⟨v, hv, rv⟩ := rl_at r hx
           exact .inr (.inl ⟨a, xs, _, v, ea, rt_int r2.rt, by rw [hK]; exact q.sq, hv, post _ _ _ hp g2 (e1.trans e2) rv⟩))
        | (obtain ⟨c, hz, hc, hp⟩ := he
           exact .inr (.inr ⟨_, _, c, rt_str r1, rt_int r2.rt, hz, hc, post _ _ _ hp g2 (e1.trans e2) pc_str⟩))
        | (obtain ⟨n, hx, hp⟩ := he
           have r1 : Rp B.C _ H2 _ x := r1
           unfold Rp at r1
           obtain ⟨a, ea, q⟩ := r1
           exact .inl ⟨a, _, _, .int n, ea, rt_int r2.rt, by rw [hK]; exact q.sq, at_map hx, post _ _ _ hp g2 (e1.trans e2) pc_int⟩)⟩⟩

/-! ### slices -/
theorem sl_tupF : SlR X (fun x lo hi H Q => ∃ a xs, x = .ref a ∧ SqT X.K H a xs ∧
  (HT.sIx xs.length 0 lo = 0 ∧ HT.sIx xs.length xs.length hi = xs.length → Q (.ref a) H) ∧ (¬ (HT.sIx xs.length 0 lo = 0 ∧ HT.sIx xs.length xs.length hi = xs.length) → ∀ p o, o.dict = none → H p = none → Q (.ref p) (upd H p (.frz o (.tup (cutV xs lo hi)))))) := by
  intro pins s σ H x v vl vu lo hi sl Q I rx hs pl pu h
  obtain ⟨a, xs, rfl, hx, q1, q2⟩ := h
  cases rx
  obtain ⟨its, r, ht, hz⟩ := I.tuple hx
  have hlen : its.toArray.size = xs.length := by rw [List.size_toArray]; exact r.length.symm
  refine ⟨"tuple", _, PyProof.Rows.slot_tuple_getitem.lookup, ht.typeIs, ?_⟩
  by_cases hw : HT.sIx xs.length 0 lo = 0 ∧ HT.sIx xs.length xs.length hi = xs.length
  · exact getItem_tuple_whole ht hs pl pu (by rw [hlen]; exact hw) ⟨.ref a, H, I, rfl, q1 hw⟩
  · refine HT.getItem_tuple_cut ht hs pl pu (by rw [hlen]; exact hw) ?_ (by rw [hlen]; exact hz)
    rw [hlen]
    exact ⟨.ref s.heap.objs.size, _, laidF (tk := s.toks) I ((r.drop (HT.sIx xs.length 0 lo)).take (HT.sIx xs.length xs.length hi - HT.sIx xs.length 0 lo)) (Nat.le_trans (cutV_length xs lo hi) hz), rfl, q2 hw _ _ rfl (I.hok.fresh (Nat.le_refl _))⟩
def cutD {α : Type} (xs : List α) (lo hi : Option Int) : List α := (xs.drop (HT.sIx xs.length 0 lo)).take (HT.sIx xs.length xs.length hi - HT.sIx xs.length 0 lo)
theorem rl_cut {O : Addr → Prop} {H : Hp} {ds : List D} {vs : List V} (r : RpL C O H ds vs) (lo hi : Option Int) : RpL C O H (cutD ds lo hi) (cutV vs lo hi) := by
  unfold cutD cutV
  rw [r.length]
  exact (r.drop _).take _
/-- a part of a slice -/
abbrev WO := Ev → (Option Int → Prop) → Prop
def liftO (B : BX) (t : WO) : TO := fun σ H R => ∃ ρ α P, EnvOk B α σ H ρ ∧ t ρ P ∧ ∀ o H', P o → GI B.C H' → Ext B.C H H' → R o H'
def wNoPart : WO := fun _ Q => Q none
def wPart (t : WE) : WO := fun ρ Q => t ρ fun d => match d with
  | .int i => Q (some i)
  | _ => False
theorem jo_none : PO X none (liftO B wNoPart) := ⟨fun pins s σ H R I ⟨ρ, α, P, E, hw, post⟩ => po_none.run pins s σ H R I (post none H hw E.gi Ext.refl)⟩
theorem jo_some {t : WE} (h : PE X e (liftE B fl t)) : PO X (some e) (liftO B (wPart t)) := ⟨fun pins s σ H R I ⟨ρ, α, P, E, hw, post⟩ => (po_some h.toT).run pins s σ H R I ⟨ρ, α, _, E, hw, fun d v H1 hd g1 e1 r1 => by
  cases d <;> first
    | exact False.elim hd
    | exact ⟨_, rt_int r1.rt, post _ _ hd g1 e1⟩⟩⟩
def dSl (d : D) (lo hi : Option Int) (Q : D → Prop) : Prop := match d with
  | .lst ds => Q (.lst (cutD ds lo hi))
  | .tup ds => Q (.tup (cutD ds lo hi))
  | .str z => z.length ≤ sizeLine ∧ Q (.str (cutS z lo hi))
  | .scr ns => Q (.lst ((cutD ns lo hi).map .int))
  | _ => False
def wSl (t : WE) (lo hi : WO) : WE := fun ρ Q => t ρ fun d => lo ρ fun l => hi ρ fun h => dSl d l h Q
theorem je_sl {t : WE} {lo hi : Option Expr} {tl th : WO} {p2 : Pos} (hK : X.K = B.C.K) (h : PE X e (liftE B fl t)) (hl : PO X lo (liftO B tl)) (hh : PO X hi (liftO B th)) : PE X (.Subscript e (.Slice lo hi none p2) pos) (liftE B .c (wSl t tl th)) :=
  (pe_slice ((sl_list.or sl_tupF).or sl_str) h.toT hl hh).weak fun σ H R ⟨ρ, α, P, E, hw, post⟩ =>
    ⟨ρ, α, _, E, hw, fun d x H1 hd g1 e1 r1 => ⟨ρ, α, _, E.ext g1 e1, hd, fun l H2 h2 g2 e2 => ⟨ρ, α, _, (E.ext g1 e1).ext g2 e2, h2, fun u H3 h3 g3 e3 => by
      have r := RpT.ext g2 e3 (RpT.ext g1 e2 r1.rt)
      have e13 := e1.trans (e2.trans e3)
      have on := E.on.ext e13
      cases d with
      | lst ds =>
        obtain ⟨a, xs, ea, _, q, r⟩ := rt_lst r
        exact .inl (.inl ⟨a, xs, ea, SqL.of q, fun p hn => post _ _ _ h3 (g3.new hn) (e13.trans (Ext.new hn)) (rt_clean (on.new hn) (rt_newlst g3 hn (rl_cut r l u)))⟩)
      | tup ds =>
        obtain ⟨a, xs, ea, q, r⟩ := rt_tup r
        refine .inl (.inr ⟨a, xs, ea, by rw [hK]; exact q.sq, fun w => ?_, fun _ p o ho hn => post _ _ _ h3 (g3.new hn) (e13.trans (Ext.new hn)) (rp_newtup g3 hn ho (rl_cut r l u))⟩)
        have h4 : P (.tup (cutD ds l u)) := h3
        have ec : cutD ds l u = ds := by
          rw [r.length] at w
          unfold cutD
          rw [w.1, w.2, List.drop_zero, Nat.sub_zero, List.take_length]
        rw [ec] at h4
        exact post _ _ _ h4 g3 e13 (rp_tup.mpr ⟨a, xs, rfl, q, r⟩)
      | str z => exact .inr ⟨_, rt_str r, h3.1, post _ _ _ h3.2 g3 e13 pc_str⟩
      | scr ns =>
        have r : Rp B.C _ H3 _ x := r
        unfold Rp at r
        obtain ⟨a, ea, q⟩ := r
        refine .inl (.inl ⟨a, _, ea, by rw [hK]; exact q.sq, fun p hn => post _ _ _ h3 (g3.new hn) (e13.trans (Ext.new hn)) (rt_clean (on.new hn) (rt_newlst g3 hn ?_))⟩)
        have ec : cutV (ns.map V.int) l u = (cutD ns l u).map V.int := by
          unfold cutV cutD
          rw [List.length_map, List.map_take, List.map_drop]
        rw [ec]
        exact rl_ints.mpr rfl
      | _ => exact False.elim h3⟩⟩⟩
end
end DL

set_option Elab.async false
set_option linter.all false
set_option maxRecDepth 100000
set_option maxHeartbeats 4000000
namespace DL
open PySem PySem.Spec PyProof.Rows L2 NdefX LamX

abbrev DL1 := List D → (D → Prop) → Prop
def rDC (C : DC) (fl : Fl) (dc : DL1) : List V → Hp → VK → Prop := fun vs H R => ∃ O ds P, GI C H ∧ ON C O H ∧ RpTL C O H ds vs ∧ dc ds P ∧
  ∀ r v H', P r → GI C H' → Ext C H H' → Post C O H H' fl r v → R v H'
def wApp (dc : DL1) (t : WA) : WE := fun ρ Q => t ρ fun ds => dc ds Q
theorem cr_weak {X : Cx} {f : Value} {r r' : List V → Hp → VK → Prop} (h : CallR X f r) (w : ∀ xs H R, r' xs H R → r xs H R) : CallR X f r' := fun pins s σ H xs us Q I rx q => h pins s σ H xs us Q I rx (w _ _ _ q)
section
variable {X : Cx} {C : DC} {B : BX} {x : Str} {p pos : Pos} {e : Expr} {es : List Expr} {id T : String} {fl : Fl} {dc : DL1} {t : WA}
theorem je_cb (hc : CallR X (.builtin id) (rDC B.C fl dc)) (hg : Gl X x) (hm : X.mg x = none) (hv : bootBuiltins x = some (.builtin id)) (ha : PA X (e :: es) (liftB B t)) (hn : x ≠ "__name__" := by decide) (hdb : (x == ("__debug__" : Str)) = false := by decide)
    (he : starEach (e :: es) X.env = (false, eval e X.env) :: starEach es X.env := by rfl) (hpl : (backTo pos (starEach es X.env)).any (·.1) = false := by rfl) : PE X (.Call (.Name x p) (e :: es) [] pos) (liftE B fl (wApp dc t)) :=
  (pe_callB hc hg hm hv ha hn hdb he hpl).weak fun σ H R ⟨ρ, α, P, E, hw, post⟩ => ⟨ρ, α, _, E, hw, fun ds vs H1 hd g1 e1 r1 =>
    ⟨_, ds, P, g1, E.on.ext e1, r1, hd, fun r v H' hr g2 e2 rr => post r v H' hr g2 (e1.trans e2) (rr.before g1 e1)⟩⟩
theorem je_cty (hc : CallR X (.type T) (rDC B.C fl dc)) (hg : Gl X x) (hm : X.mg x = none) (hv : bootBuiltins x = some (.type T)) (ha : PA X (e :: es) (liftB B t)) (hn : x ≠ "__name__" := by decide) (hdb : (x == ("__debug__" : Str)) = false := by decide)
    (he : starEach (e :: es) X.env = (false, eval e X.env) :: starEach es X.env := by rfl) (hpl : (backTo pos (starEach es X.env)).any (·.1) = false := by rfl) : PE X (.Call (.Name x p) (e :: es) [] pos) (liftE B fl (wApp dc t)) :=
  (pe_callTy hc hg hm hv ha hn hdb he hpl).weak fun σ H R ⟨ρ, α, P, E, hw, post⟩ => ⟨ρ, α, _, E, hw, fun ds vs H1 hd g1 e1 r1 =>
    ⟨_, ds, P, g1, E.on.ext e1, r1, hd, fun r v H' hr g2 e2 rr => post r v H' hr g2 (e1.trans e2) (rr.before g1 e1)⟩⟩

/-! ### len, sum, all, any -/
def dLen : DL1 := fun ds Q => match ds with
  | [.lst xs] => Q (.int (xs.length : Nat))
  | [.tup xs] => Q (.int (xs.length : Nat))
  | [.str z] => z.length ≤ sizeLine ∧ Q (.int (z.length : Nat))
  | [.scr ns] => Q (.int (ns.length : Nat))
  | _ => False
theorem cr_dlen (hK : X.K = C.K) : CallR X (.builtin "len") (rDC C .c dLen) := cr_weak call_len fun vs H R ⟨O, ds, P, g, on, rs, h, post⟩ => by
  unfold dLen at h
  split at h
  · rename_i xs
    obtain ⟨v, ev, r⟩ := rl_1 rs
    subst ev
    obtain ⟨a, ys, rfl, _, q, r⟩ := rt_lst r
    exact ⟨_, xs.length, rfl, .inl ⟨ys, SqL.of q, r.length.symm⟩, post _ _ H h g Ext.refl pc_int⟩
  · rename_i xs
    obtain ⟨v, ev, r⟩ := rl_1 rs
    subst ev
    obtain ⟨a, ys, rfl, q, r⟩ := rt_tup r
    exact ⟨_, xs.length, rfl, .inr ⟨ys, by rw [hK]; exact q.sq, r.length.symm⟩, post _ _ H h g Ext.refl pc_int⟩
  · rename_i z
    obtain ⟨v, ev, r⟩ := rl_1 rs
    subst ev
    rw [rt_str r]
    exact ⟨_, z.length, rfl, ⟨h.1, rfl⟩, post _ _ H h.2 g Ext.refl pc_int⟩
  · rename_i ns
    obtain ⟨v, ev, r⟩ := rl_1 rs
    subst ev
    have r : Rp C O H (.scr ns) v := r
    unfold Rp at r
    obtain ⟨a, rfl, q⟩ := r
    exact ⟨_, ns.length, rfl, .inl ⟨_, by rw [hK]; exact q.sq, by rw [List.length_map]⟩, post _ _ H h g Ext.refl pc_int⟩
  · exact h.elim
def dSum : DL1 := fun ds Q => match ds with
  | [.lst xs] => ∃ ns : List Int, xs = ns.map D.int ∧ Q (.int ns.sum)
  | _ => False
theorem cr_dsum (hc : X.calm = true) : CallR X (.builtin "sum") (rDC C .c dSum) := cr_weak (cr_sum hc) fun vs H R ⟨O, ds, P, g, on, rs, h, post⟩ => by
  unfold dSum at h
  split at h
  · obtain ⟨ns, rfl, h⟩ := h
    obtain ⟨v, ev, r⟩ := rl_1 rs
    subst ev
    obtain ⟨a, ys, rfl, _, q, r⟩ := rt_lst r
    rw [rl_ints.mp r] at q
    exact ⟨a, ns, rfl, SqL.of q, post _ _ H h g Ext.refl pc_int⟩
  · exact h.elim
def dBools (f : List Bool → Bool) : DL1 := fun ds Q => match ds with
  | [.lst xs] => ∃ bs : List Bool, xs = bs.map D.bl ∧ Q (.bl (f bs))
  | _ => False
abbrev dAll : DL1 := dBools fun bs => bs.all _root_.id
abbrev dAny : DL1 := dBools fun bs => bs.any _root_.id
theorem cr_dall (hc : X.calm = true) : CallR X (.builtin "all") (rDC C .c dAll) := cr_weak (cr_all hc) fun vs H R ⟨O, ds, P, g, on, rs, h, post⟩ => by
  unfold dAll dBools at h
  split at h
  · obtain ⟨ns, rfl, h⟩ := h
    obtain ⟨v, ev, r⟩ := rl_1 rs
    subst ev
    obtain ⟨a, ys, rfl, _, q, r⟩ := rt_lst r
    rw [rl_bls.mp r] at q
    exact ⟨a, ns, rfl, SqL.of q, post _ _ H h g Ext.refl pc_bl⟩
  · exact h.elim
theorem cr_dany (hc : X.calm = true) : CallR X (.builtin "any") (rDC C .c dAny) := cr_weak (cr_any hc) fun vs H R ⟨O, ds, P, g, on, rs, h, post⟩ => by
  unfold dAny dBools at h
  split at h
  · obtain ⟨ns, rfl, h⟩ := h
    obtain ⟨v, ev, r⟩ := rl_1 rs
    subst ev
    obtain ⟨a, ys, rfl, _, q, r⟩ := rt_lst r
    rw [rl_bls.mp r] at q
    exact ⟨a, ns, rfl, SqL.of q, post _ _ H h g Ext.refl pc_bl⟩
  · exact h.elim

/-! ### tuple(..), list(..), int(..), abs, max, min of two -/
def dTuple : DL1 := fun ds Q => match ds with
  | [.lst xs] => Q (.tup xs)
  | [.tup xs] => Q (.tup xs)
  | _ => False
theorem call_tuple_ofF : CallR X (.type "tuple") (fun xs H Q => ∃ p ys, xs = [.ref p] ∧ ((SqL X.K H p ys ∧ ∀ l o, o.dict = none → H l = none → Q (.ref l) (upd H l (.frz o (.tup ys)))) ∨ (SqT X.K H p ys ∧ Q (.ref p) H))) := by
  intro pins s σ H xs us Q I r h
  obtain ⟨p, ys, rfl, h⟩ := h
  obtain ⟨u, rfl, rx⟩ := vals1 r
  cases rx
  rcases h with ⟨hq, q⟩ | ⟨hq, q⟩
  · obtain ⟨its, r', pl, hz⟩ := I.list hq
    have hlen := r'.length
    refine call_tuple_list pl.isList (fun h' kp => ?_) (by simp only [List.size_toArray] <;> omega)
    have I1 : Inv X pins σ H { s with heap := h' } := I.kept (t' := s.toks) kp
    exact ⟨.ref h'.objs.size, _, laidF (tk := s.toks) I1 r' hz, rfl, q _ _ rfl (I1.hok.fresh (Nat.le_refl _))⟩
  · obtain ⟨its, r', pl, hz⟩ := I.tuple hq
    exact call_tuple_same pl ⟨.ref p, H, I, rfl, q⟩
theorem cr_dtuple (hK : X.K = C.K) : CallR X (.type "tuple") (rDC C .c dTuple) := cr_weak call_tuple_ofF fun vs H R ⟨O, ds, P, g, on, rs, h, post⟩ => by
  unfold dTuple at h
  split at h
  · obtain ⟨v, ev, r⟩ := rl_1 rs
    subst ev
    obtain ⟨a, ys, rfl, _, q, r⟩ := rt_lst r
    exact ⟨a, ys, rfl, .inl ⟨SqL.of q, fun l o ho hn => post _ _ _ h (g.new hn) (Ext.new hn) (rp_newtup g hn ho r)⟩⟩
  · obtain ⟨v, ev, r⟩ := rl_1 rs
    subst ev
    obtain ⟨a, ys, rfl, q, r⟩ := rt_tup r
    exact ⟨a, ys, rfl, .inr ⟨by rw [hK]; exact q.sq, post _ _ H h g Ext.refl (rp_tup.mpr ⟨a, ys, rfl, q, r⟩)⟩⟩
  · exact h.elim
def dList : DL1 := fun ds Q => match ds with
  | [.lst xs] => Q (.lst xs)
  | [.tup xs] => Q (.lst xs)
  | _ => False
theorem cr_dlist (hK : X.K = C.K) : CallR X (.type "list") (rDC C .n dList) := cr_weak call_list_of fun vs H R ⟨O, ds, P, g, on, rs, h, post⟩ => by
  unfold dList at h
  split at h
  · obtain ⟨v, ev, r⟩ := rl_1 rs
    subst ev
    obtain ⟨a, ys, rfl, _, q, r⟩ := rt_lst r
    exact ⟨a, ys, rfl, .inl (SqL.of q), fun l hn => post _ _ _ h (g.new hn) (Ext.new hn) ⟨l, rfl, hn, rt_newlst g hn r⟩⟩
  · obtain ⟨v, ev, r⟩ := rl_1 rs
    subst ev
    obtain ⟨a, ys, rfl, q, r⟩ := rt_tup r
    exact ⟨a, ys, rfl, .inr (by rw [hK]; exact q.sq), fun l hn => post _ _ _ h (g.new hn) (Ext.new hn) ⟨l, rfl, hn, rt_newlst g hn r⟩⟩
  · exact h.elim
def dInt1 : DL1 := fun ds Q => match ds with
  | [.int i] => Q (.int i)
  | [.bl b] => Q (.int (if b then 1 else 0))
  | _ => False
theorem cr_dint1 : CallR X (.type "int") (rDC C .c dInt1) := cr_weak call_int1 fun vs H R ⟨O, ds, P, g, on, rs, h, post⟩ => by
  unfold dInt1 at h
  split at h
  · obtain ⟨v, ev, r⟩ := rl_1 rs
    subst ev
    exact .inl ⟨_, by rw [rt_int r], post _ _ H h g Ext.refl pc_int⟩
  · obtain ⟨v, ev, r⟩ := rl_1 rs
    subst ev
    exact .inr ⟨_, by rw [rt_bl r], post _ _ H h g Ext.refl pc_int⟩
  · exact h.elim
def dAbs : DL1 := fun ds Q => match ds with
  | [.int i] => Q (.int (if i < 0 then -i else i))
  | _ => False
theorem cr_dabs : CallR X (.builtin "abs") (rDC C .c dAbs) := cr_weak call_abs fun vs H R ⟨O, ds, P, g, on, rs, h, post⟩ => by
  unfold dAbs at h
  split at h
  · obtain ⟨v, ev, r⟩ := rl_1 rs
    subst ev
    exact ⟨_, by rw [rt_int r], post _ _ H h g Ext.refl pc_int⟩
  · exact h.elim
def dII (f : Int → Int → Int) : DL1 := fun ds Q => match ds with
  | [.int i, .int j] => Q (.int (f i j))
  | _ => False
abbrev dMax2 : DL1 := dII fun i j => if j > i then j else i
abbrev dMin2 : DL1 := dII fun i j => if j < i then j else i
theorem cr_dmax2 (hc : X.calm = true) : CallR X (.builtin "max") (rDC C .c dMax2) := cr_weak (call_max2 hc) fun vs H R ⟨O, ds, P, g, on, rs, h, post⟩ => by
  unfold dMax2 dII at h
  split at h
  · obtain ⟨v, u, ev, r, r2⟩ := rl_2 rs
    subst ev
    exact ⟨_, _, by rw [rt_int r, rt_int r2], post _ _ H h g Ext.refl pc_int⟩
  · exact h.elim
theorem cr_dmin2 (hc : X.calm = true) : CallR X (.builtin "min") (rDC C .c dMin2) := cr_weak (call_min2 hc) fun vs H R ⟨O, ds, P, g, on, rs, h, post⟩ => by
  unfold dMin2 dII at h
  split at h
  · obtain ⟨v, u, ev, r, r2⟩ := rl_2 rs
    subst ev
    exact ⟨_, _, by rw [rt_int r, rt_int r2], post _ _ H h g Ext.refl pc_int⟩
  · exact h.elim

/-! ### repr -/
theorem call_reprD (hg : X.A.guards = some []) (hu : X.A.units + 200 < cLine) : CallR X (.builtin "repr") (fun xs H Q => ∃ v d, xs = [v] ∧ Dp X.K H v d ∧ SeqAt.shaped d = true ∧ PyData.showable d = true ∧ d.shown.length ≤ sizeLine ∧ Q (.str d.shown) H) := by
  intro pins s σ H xs us Q I r h
  obtain ⟨v, d, rfl, hd, hs, hw, hz, q⟩ := h
  obtain ⟨u, rfl, ru⟩ := vals1 r
  have h64 := SeqAt.depth_of_shaped hs
  have hnd := PyData.hasDict_of_canLay d (SeqAt.canLay_of_shaped hs)
  obtain ⟨as, hr⟩ := Dp.reads I d v u hd ru
  have ref : ∀ a : Addr, u = .ref a → wpAny (model X.prog X.w) X.A (call (.builtin "repr") [u]) (EP X pins σ Q) X.xe s := fun a e => by
    subst e
    exact repr_of_reads' hr hw (PyData.noDict_hsm hnd) hg (by omega) (fun _ _ e => e) (fun h' w tk hk => ⟨.str d.shown, H, I.kept (t' := tk) hk, ⟨_, rfl⟩, q⟩) hz
  cases d with
  | none => cases hd; cases ru; exact PySem.P.repr_of_none ⟨.str _, H, I.tok _, ⟨_, rfl⟩, q⟩
  | bool b =>
    cases hd; cases ru
    refine PySem.P.repr_of_bool ⟨.str _, H, I.tok _, ⟨_, rfl⟩, ?_⟩
    cases b <;> (simp only [PyData.shown] at q; exact q)
  | int i =>
    cases hd
    obtain ⟨t, rfl⟩ := ru
    have e : (PyData.int i).shown = (toString i : Str) := by simp only [PyData.shown]
    rw [e] at q
    exact PySem.P.repr_of_int (by simpa [PyData.showable] using hw) ⟨.str _, H, I.tok _, ⟨_, rfl⟩, q⟩
  | str x =>
    cases hd
    obtain ⟨t, rfl⟩ := ru
    have e : (PyData.str x).shown = reprText x := by simp only [PyData.shown]
    rw [e] at q hz
    exact PySem.P.repr_of_str ⟨.str _, H, I.tok _, ⟨_, rfl⟩, q⟩ hz
  | list ds =>
    cases hd
    cases ru
    exact ref _ rfl
  | tuple ds =>
    cases hd
    cases ru
    exact ref _ rfl
  | dict kvs => cases hd
def ReprOk (d : D) : Prop := d.isPy = true ∧ SeqAt.shaped d.py = true ∧ PyData.showable d.py = true ∧ d.py.shown.length ≤ sizeLine
def dRepr : DL1 := fun ds Q => match ds with
  | [d] => ReprOk d ∧ Q (.str d.py.shown)
  | _ => False
theorem cr_drepr (hK : X.K = C.K) (hg : X.A.guards = some []) (hu : X.A.units + 200 < cLine) : CallR X (.builtin "repr") (rDC C .c dRepr) := cr_weak (call_reprD hg hu) fun vs H R ⟨O, ds, P, g, on, rs, h, post⟩ => by
  unfold dRepr at h
  split at h
  · obtain ⟨⟨h1, h2, h3, h4⟩, h⟩ := h
    obtain ⟨v, ev, r⟩ := rl_1 rs
    subst ev
    exact ⟨v, _, rfl, by rw [hK]; exact dp_top h1 r, h2, h3, h4, post _ _ H h g Ext.refl pc_str⟩
  · exact h.elim

/-! ### isinstance -/
def D.ty : D → Option String
  | .non => some "NoneType"
  | .bl _ => some "bool"
  | .int _ => some "int"
  | .str _ => some "str"
  | .tup _ => some "tuple"
  | .par _ _ => none
  | .lst _ => some "list"
  | .dik _ _ => some "dict"
  | .dit _ _ => some "dict"
  | .fn _ => none
  | .well => none
  | .scr _ => none
theorem ty_of {O : Addr → Prop} {H : Hp} {d : D} {v : V} {T : String} (h : RpT C O H d v) (ht : d.ty = some T) : TyX C.K H v (.type T) := by
  cases d with
  | non => cases ht; rw [rt_non h]; exact .base .non
  | bl b => cases ht; rw [rt_bl h]; exact .base (.bl b)
  | int b => cases ht; rw [rt_int h]; exact .base (.int b)
  | str b => cases ht; rw [rt_str h]; exact .base (.str b)
  | tup ds =>
    cases ht
    obtain ⟨a, xs, rfl, q, _⟩ := rt_tup h
    rcases q with ⟨o, q, _⟩ | ⟨o, its, n, q, q2, _⟩
    · exact .fTuple q
    · exact .kTuple q q2
  | lst ds =>
    cases ht
    obtain ⟨a, xs, rfl, _, q, _⟩ := rt_lst h
    exact .base (.lst q)
  | dik ks ds =>
    cases ht
    obtain ⟨a, xs, rfl, _, q, _⟩ := h
    exact .base (.dK q)
  | dit ks ds =>
    cases ht
    obtain ⟨a, xs, rfl, _, q, _⟩ := h
    exact .base (.dT q)
  | _ => cases ht
def dIsi (T : String) : D1 := fun d Q => ∃ T' b, d.ty = some T' ∧ kitB T' T = some b ∧ Q (.bl b)
theorem je_isi {te : WE} {f1 : Fl} {p2 : Pos} {tn : Str} (hK : X.K = B.C.K) (h : PE X e (liftE B f1 te)) (hg : Gl X "isinstance") (hm : X.mg "isinstance" = none) (ht : PE X (.Name tn p2) (tC (.ty T))) (hv : bootBuiltins "isinstance" = some (.builtin "isinstance"))
    (hs : starEach [e, .Name tn p2] X.env = (false, eval e X.env) :: starEach [.Name tn p2] X.env := by rfl) (hpl : (backTo pos (starEach [.Name tn p2] X.env)).any (·.1) = false := by rfl) :
    PE X (.Call (.Name "isinstance" p) [e, .Name tn p2] [] pos) (liftE B .c (wUn (dIsi T) te)) :=
  (pe_callB call_isi hg hm hv (pa_cons h.toT (pa_cons ht pa_nil) hs) (by decide) (by decide) hs hpl).weak fun σ H R ⟨ρ, α, P, E, hw, post⟩ => ⟨ρ, α, _, E, hw, fun d v H1 ⟨T', b, h1, h2, hd⟩ g1 e1 r1 =>
    ⟨v, .ty T, _, _, b, rfl, .ty T, by rw [hK]; exact ty_of r1.rt h1, kit_ty h2, post _ _ H1 hd g1 e1 pc_bl⟩⟩

/-! ### methods -/
def D.isT (T : String) : D → Prop
  | .lst _ => T = "list"
  | .tup _ => T = "tuple"
  | .str _ => T = "str"
  | .dik _ _ => T = "dict"
  | .dit _ _ => T = "dict"
  | _ => False
def tyW (K : PySem.W.Frag) (T : String) (x : V) (H : Hp) : Prop := tyV K T x H ∨ (T = "tuple" ∧ ∃ a xs, x = .ref a ∧ TupR K H a xs)
theorem tyW_is {pins : List (Addr × Obj)} {σ : L2.St} {H : Hp} {s : Shared} {T : String} {x : V} {v : Value} (I : Inv X pins σ H s) (r : RelV x v) (ty : tyW X.K T x H) :
    s.TypeIs v T ∧ ∀ a, v = .ref a → ∃ ob, s.heap.get? a = some ob ∧ ob.dict = none := by
  rcases ty with ty | ⟨rfl, a, xs, rfl, q⟩
  · exact tyV_is I r ty
  · cases r
    rcases q with ⟨o, q, hd⟩ | ⟨o, its, n, hk, hc, hd, _⟩
    · obtain ⟨e, _, _, _, o', e', hc, _⟩ := (show ObjOk X.prog X.w H s.heap a (.frz o (.tup xs)) from I.hok a _ q)
      exact ⟨⟨o', e', hc⟩, fun b eb => by cases eb; exact ⟨o, e, hd⟩⟩
    · exact ⟨⟨o, I.kIn a o hk, hc⟩, fun b eb => by cases eb; exact ⟨o, I.kIn _ o hk, hd⟩⟩
variable {o : Expr} {to : TE} {ta : TA} {name : Str} {apos cpos : Pos} {r : V → List V → Hp → VK → Prop}
theorem pe_bmX (pa : PlainAttrs T) (slot : PySem.Slot T name id) (hty : typeOf (.builtin id) = pure (.type "method_descriptor")) (hm : MtR X id r) (ho : PE X o to) (ha : PA X (e :: es) ta)
    (hbase : attributeBase o name X.env (eval o X.env) = eval o X.env := by rfl)
    (hfew : ((backTo cpos (starEach (e :: es) X.env)).all (fun x => !x.1) && (backToKw cpos (keywordEach [] X.env)).all (fun x => x.1.isSome)
      && decide ((e :: es).length + ([] : List Keyword).length + (if ([] : List Keyword).isEmpty then 0 else 1) < 30)) = true := by rfl)
    (hline : (apos.endLine == cpos.line) = true := by rfl) (hs : starEach (e :: es) X.env = (false, eval e X.env) :: starEach es X.env := by rfl) (hplain : (backTo cpos (starEach es X.env)).any (·.1) = false := by rfl) :
    PE X (.Call (.Attribute o name apos) (e :: es) [] cpos) (fun σ H Q => to σ H fun x H1 => tyW X.K T x H1 ∧ ta σ H1 fun xs H2 => r x xs H2 Q) := by
  refine ⟨fun pins s σ H Q I h => ?_⟩
  refine wpAny_Call_method_late hbase hfew hline rfl (thn (ho.run pins s σ H _ I h) fun v s1 ⟨x, H1, I1, r1, ty, q1⟩ => ?_)
  obtain ⟨h1, h2⟩ := tyW_is I1 r1 ty
  refine ⟨T, id, pa, slot, hty, h1, h2, ?_⟩
  have hA := ha.run cpos pins s1 σ H1 _ I1 q1
  rw [hs] at hA ⊢
  refine Calls.callWith_builtin (by show (false || (backTo cpos (starEach es X.env)).any (·.1)) = false; rw [hplain] <;> rfl) (Calls.evalArgs_plain ?_)
  exact thn hA fun us s2 ⟨vs, H2, I2, r2, q2⟩ => hm pins s2 σ H2 x vs v us Q I2 r1 r2 q2
abbrev DM := D → List D → (D → Prop) → Prop
def rDM (C : DC) (fl : Fl) (dm : DM) : V → List V → Hp → VK → Prop := fun x vs H R => ∃ O d ds P, GI C H ∧ ON C O H ∧ RpT C O H d x ∧ RpTL C O H ds vs ∧ dm d ds P ∧
  ∀ r v H', P r → GI C H' → Ext C H H' → Post C O H H' fl r v → R v H'
def wMeth (T : String) (dm : DM) (to : WE) (ta : WA) : WE := fun ρ Q => to ρ fun d => d.isT T ∧ ta ρ fun ds => dm d ds Q
theorem ty_isT {O : Addr → Prop} {H : Hp} {d : D} {v : V} (h : RpT C O H d v) (ht : d.isT T) : tyW C.K T v H := by
  cases d with
  | lst ds => cases ht; obtain ⟨a, xs, rfl, _, q, _⟩ := rt_lst h; exact .inl (.inl ⟨rfl, xs, SqL.of q⟩)
  | tup ds => cases ht; obtain ⟨a, xs, rfl, q, _⟩ := rt_tup h; exact .inr ⟨rfl, a, xs, rfl, q⟩
  | str z => cases ht; rw [rt_str h]; exact .inl rfl
  | dik ks ds => cases ht; obtain ⟨a, xs, rfl, _, q, _⟩ := h; exact .inl (.inr (.inr (.inl ⟨rfl, .inl ⟨_, q⟩⟩)))
  | dit ks ds => cases ht; obtain ⟨a, xs, rfl, _, q, _⟩ := h; exact .inl (.inr (.inr (.inl ⟨rfl, .inr ⟨_, q⟩⟩)))
  | _ => exact False.elim ht
theorem je_meth {dm : DM} {wo : WE} {wa : WA} {f1 : Fl} (hK : X.K = B.C.K) (pa : PlainAttrs T) (slot : PySem.Slot T name id) (hty : typeOf (.builtin id) = pure (.type "method_descriptor")) (hm : MtR X id (rDM B.C fl dm)) (ho : PE X o (liftE B f1 wo)) (ha : PA X (e :: es) (liftB B wa))
    (hbase : attributeBase o name X.env (eval o X.env) = eval o X.env := by rfl)
    (hfew : ((backTo cpos (starEach (e :: es) X.env)).all (fun x => !x.1) && (backToKw cpos (keywordEach [] X.env)).all (fun x => x.1.isSome)
      && decide ((e :: es).length + ([] : List Keyword).length + (if ([] : List Keyword).isEmpty then 0 else 1) < 30)) = true := by rfl)
    (hline : (apos.endLine == cpos.line) = true := by rfl) (hs : starEach (e :: es) X.env = (false, eval e X.env) :: starEach es X.env := by rfl) (hplain : (backTo cpos (starEach es X.env)).any (·.1) = false := by rfl) :
    PE X (.Call (.Attribute o name apos) (e :: es) [] cpos) (liftE B fl (wMeth T dm wo wa)) :=
  (pe_bmX pa slot hty hm ho.toT ha hbase hfew hline hs hplain).weak fun σ H R ⟨ρ, α, P, E, hw, post⟩ => ⟨ρ, α, _, E, hw, fun d v H1 hd g1 e1 r1 =>
    ⟨by rw [hK]; exact ty_isT r1.rt hd.1, ρ, α, _, E.ext g1 e1, hd.2, fun ds vs H2 hds g2 e2 r2 => ⟨_, d, ds, P, g2, (E.ext g1 e1).on.ext e2, RpT.ext g1 e2 r1.rt, r2, hds, fun r v H' hr g3 e3 rr => post r v H' hr g3 (e1.trans (e2.trans e3)) (rr.before g2 (e1.trans e2))⟩⟩⟩
theorem mt_weak {r r' : V → List V → Hp → VK → Prop} (h : MtR X id r) (w : ∀ x xs H R, r' x xs H R → r x xs H R) : MtR X id r' := fun pins s σ H x xs v us Q I rx rs q => h pins s σ H x xs v us Q I rx rs (w _ _ _ _ q)
/-- the first place of a thing -/
def firstIx (ds : List D) (d : D) (j : Nat) : Prop := (∃ z, ds[j]? = some z ∧ PyData.eqv z.py d.py = true) ∧ ∀ m z, m < j → ds[m]? = some z → PyData.eqv z.py d.py = false
def dIndexL : DM := fun d es Q => match d with
  | .lst ds => match es with
    | [e] => (e.flat = true ∧ ds.all D.flat = true) ∧ ∃ j, firstIx ds e j ∧ Q (.int (j : Nat))
    | _ => False
  | _ => False
theorem flat_get {ds : List D} (f : ds.all D.flat = true) {j : Nat} {z : D} (h : ds[j]? = some z) : z.flat = true := List.all_eq_true.mp f z (List.mem_of_getElem? h)
theorem mt_dindexL : MtR X "list.index" (rDM C .c dIndexL) := mt_weak mt_index fun x vs H R ⟨O, d, es, P, g, on, r1, rs, h, post⟩ => by
  unfold dIndexL at h
  split at h
  · rename_i ds
    split at h
    · rename_i e
      obtain ⟨⟨f1, f2⟩, j, ⟨⟨z, hz, he⟩, hno⟩, h⟩ := h
      obtain ⟨v, ev, r2⟩ := rl_1 rs
      subst ev
      obtain ⟨a, xs, rfl, _, q, r⟩ := rt_lst r1
      obtain ⟨u, hu, ru⟩ := r.get hz
      have r2 := flat_top f1 r2
      refine ⟨a, xs, v, j, u, rfl, rfl, SqL.of q, flat_rp f1 r2, flat_all f2 r, hu, by rw [flat_eqv (flat_get f2 hz) f1 ru r2]; exact he, fun m z' hm hz' => ?_, post _ _ H h g Ext.refl pc_int⟩
      obtain ⟨d', hd', rd⟩ := r.getv hz'
      rw [flat_eqv (flat_get f2 hd') f1 rd r2]
      exact hno m d' hm hd'
    · exact h.elim
  · exact h.elim
theorem str_list : ∀ {ds : List D}, (∀ d ∈ ds, ∃ x, d = .str x) → ∃ xs : List Str, ds = xs.map D.str
  | [], _ => ⟨[], rfl⟩
  | d :: ds, h => by
    obtain ⟨x, rfl⟩ := h d (by simp)
    obtain ⟨xs, e⟩ := str_list (ds := ds) fun e he => h e (List.mem_cons_of_mem _ he)
    exact ⟨x :: xs, by rw [e]; rfl⟩
/-- tuples of texts -/
def dIndexT : DM := fun d es Q => match d with
  | .tup ds => match es with
    | [.str z] => ∃ xs : List Str, ds = xs.map D.str ∧ ∃ j, (xs[j]? = some z ∧ ∀ m, m < j → xs[m]? ≠ some z) ∧ Q (.int (j : Nat))
    | _ => False
  | _ => False
theorem mt_dindexT (hK : X.K = C.K) : MtR X "tuple.index" (rDM C .c dIndexT) := mt_weak mt_tup_index fun x vs H R ⟨O, d, es, P, g, on, r1, rs, h, post⟩ => by
  unfold dIndexT at h
  split at h
  · split at h
    · obtain ⟨xs, rfl, j, ⟨h1, h2⟩, h⟩ := h
      obtain ⟨v, ev, r2⟩ := rl_1 rs
      subst ev
      obtain ⟨a, ys, rfl, q, r⟩ := rt_tup r1
      rw [rl_strs.mp r] at q
      exact ⟨a, xs, _, j, rfl, by rw [rt_str r2], by rw [hK]; exact q.sq, h1, h2, post _ _ H h g Ext.refl pc_int⟩
    · exact h.elim
  · exact h.elim
/-- how often a flat thing stands in a tuple -/
theorem mt_tup_count : MtR X "tuple.count" (fun x xs H Q => ∃ p ys y, x = .ref p ∧ xs = [y] ∧ SqT X.K H p ys ∧ flatV y = true ∧ ys.all flatV = true ∧ Q (.int ((ys.countP fun z => eqV z y) : Nat)) H) := by
  intro pins s σ H x xs v us Q I rx rs h
  obtain ⟨p, ys, y, rfl, rfl, hq, fy, fys, q⟩ := h
  cases rx
  obtain ⟨u, rfl, ru⟩ := vals1 rs
  obtain ⟨its, r, ⟨⟨cls, dd, dt, sl⟩, ho, hc, n, hd⟩, hz⟩ := I.tuple hq
  simp only at hc hd
  subst hc hd
  refine call_meets PySem.F.slot_tuple_count ⟨_, ho, rfl⟩ PySem.F.entry_tuple_count (PySem.F.args_tuple_count_2 _ _) (SeqAt.tuple_countAt p its.toArray n dd sl u (eqU y))
    ⟨ho, fun w hw => mem_eqAt ru fy r fys w (by simpa using hw), ?_⟩
  have ec : ∀ {xs : List V} {us : List Value}, Vals xs us → xs.all flatV = true → us.countP (eqU y) = xs.countP fun z => eqV z y := by
    intro xs us rr
    induction rr with
    | nil => intro _; rfl
    | cons r1 t ih =>
      intro f
      rw [List.all_cons, Bool.and_eq_true] at f
      rw [List.countP_cons, List.countP_cons, ih f.2, eqU_of r1 f.1]
  refine ⟨.int _, H, I.tok _, ⟨s.toks, ?_⟩, q⟩
  show Value.int ((its.toArray.toList.countP (eqU y) : Nat) : Int) s.toks = _
  rw [List.toList_toArray, ec r fys]
def dCountT : DM := fun d es Q => match d with
  | .tup ds => match es with
    | [e] => (e.flat = true ∧ ds.all D.flat = true) ∧ Q (.int ((ds.countP fun z => PyData.eqv z.py e.py) : Nat))
    | _ => False
  | _ => False
theorem rl_count {O : Addr → Prop} {H : Hp} {d : D} {v : V} (f' : d.flat = true) (h' : Rp C O H d v) : ∀ {ds : List D} {vs : List V}, ds.all D.flat = true → RpL C O H ds vs → (vs.countP fun z => eqV z v) = ds.countP fun z => PyData.eqv z.py d.py
  | [], vs, _, h => by rw [rl_nil.mp h]; rfl
  | e :: ds, vs, f, h => by
    obtain ⟨u, ws, rfl, r, t⟩ := rl_cons.mp h
    rw [List.all_cons, Bool.and_eq_true] at f
    rw [List.countP_cons, List.countP_cons, rl_count f' h' f.2 t, flat_eqv f.1 f' r h']
theorem mt_dcountT (hK : X.K = C.K) : MtR X "tuple.count" (rDM C .c dCountT) := mt_weak mt_tup_count fun x vs H R ⟨O, d, es, P, g, on, r1, rs, h, post⟩ => by
  unfold dCountT at h
  split at h
  · split at h
    · obtain ⟨⟨f1, f2⟩, h⟩ := h
      obtain ⟨v, ev, r2⟩ := rl_1 rs
      subst ev
      obtain ⟨a, ys, rfl, q, r⟩ := rt_tup r1
      have r2 := flat_top f1 r2
      refine ⟨a, ys, v, rfl, rfl, by rw [hK]; exact q.sq, flat_rp f1 r2, flat_all f2 r, ?_⟩
      rw [rl_count f1 r2 f2 r]
      exact post _ _ H h g Ext.refl pc_int
    · exact h.elim
  · exact h.elim
/-- sep.join(list or tuple of texts) -/
def dJoin : DM := fun d es Q => match d with
  | .str z => match es with
    | [.lst ds] => ∃ ys : List Str, ds = ys.map D.str ∧ (ys.map (·.length)).sum + ys.length * z.length ≤ 16777216 ∧ Q (.str (Txt.join z ys))
    | [.tup ds] => ∃ ys : List Str, ds = ys.map D.str ∧ (ys.map (·.length)).sum + ys.length * z.length ≤ 16777216 ∧ Q (.str (Txt.join z ys))
    | _ => False
  | _ => False
theorem mt_djoin (hK : X.K = C.K) : MtR X "str.join" (rDM C .c dJoin) := mt_weak mt_join fun x vs H R ⟨O, d, es, P, g, on, r1, rs, h, post⟩ => by
  unfold dJoin at h
  split at h
  · split at h
    · obtain ⟨ys, rfl, hz, h⟩ := h
      obtain ⟨v, ev, r2⟩ := rl_1 rs
      subst ev
      obtain ⟨a, xs, rfl, _, q, r⟩ := rt_lst r2
      rw [rl_strs.mp r] at q
      exact ⟨_, a, ys, rt_str r1, rfl, .inl (SqL.of q), hz, post _ _ H h g Ext.refl pc_str⟩
    · obtain ⟨ys, rfl, hz, h⟩ := h
      obtain ⟨v, ev, r2⟩ := rl_1 rs
      subst ev
      obtain ⟨a, xs, rfl, q, r⟩ := rt_tup r2
      rw [rl_strs.mp r] at q
      exact ⟨_, a, ys, rt_str r1, rfl, .inr (by rw [hK]; exact q.sq), hz, post _ _ H h g Ext.refl pc_str⟩
    · exact h.elim
  · exact h.elim
end
end DL

set_option Elab.async false
set_option linter.all false
set_option maxRecDepth 100000
set_option maxHeartbeats 4000000
namespace DL
open PySem PySem.Spec PyProof.Rows L2 NdefX LamX

/-! ### a set of addresses that must not come into data -/
def BX.adds (B : BX) (S : Addr → Prop) : BX := { B with S0 := fun b => B.S0 b ∨ S b }
theorem RpT.move {C : DC} {O O' : Addr → Prop} {H1 H : Hp} (g : GI C H1) (on : OO O H1) (st : Ext C H1 H) (ho : ∀ a, O' a → O a ∨ H1 a = none) {d : D} {v : V} (h : RpT C O H1 d v) : RpT C O' H d v := by
  cases d <;> first
    | exact Rp.move g on (Stay.of_ext st) ho h
    | (obtain ⟨b, xs, e, s, q, r⟩ := h; exact ⟨b, xs, e, s, st _ _ q s, RpL.move g on (Stay.of_ext st) ho r⟩)
    | (obtain ⟨b, xs, e, s, q, l, r⟩ := h; exact ⟨b, xs, e, s, st _ _ q s, l, RpL.move g on (Stay.of_ext st) ho r⟩)

/-! ### several values, some of them new lists -/
inductive Kd | d | o
def owns : List Kd → List V → Addr → Prop
  | .o :: ks, v :: vs, a => v = .ref a ∨ owns ks vs a
  | .d :: ks, _ :: vs, a => owns ks vs a
  | _, _, _ => False
def KPost (C : DC) (O : Addr → Prop) (H H' : Hp) : List Kd → List D → List V → Prop
  | [], ds, vs => ds = [] ∧ vs = []
  | .d :: ks, ds, vs => ∃ d e v w, ds = d :: e ∧ vs = v :: w ∧ Rp C (fun b => O b ∨ owns ks w b) H' d v ∧ KPost C O H H' ks e w
  | .o :: ks, ds, vs => ∃ d e a w, ds = d :: e ∧ vs = .ref a :: w ∧ H a = none ∧ OwnD d ∧ ¬ owns ks w a ∧ RpT C (fun b => (O b ∨ b = a) ∨ owns ks w b) H' d (.ref a) ∧ KPost C (fun b => O b ∨ b = a) H H' ks e w
theorem KPost.none {C : DC} {H H' : Hp} : ∀ {ks : List Kd} {O : Addr → Prop} {ds : List D} {vs : List V}, KPost C O H H' ks ds vs → ∀ a, owns ks vs a → H a = none
  | [], _, _, _, _, a, z => by unfold owns at z; exact z.elim
  | .d :: ks, _, _, _, ⟨d, e, v, w, _, e2, _, k⟩, a, z => by subst e2; unfold owns at z; exact KPost.none k a z
  | .o :: ks, _, _, _, ⟨d, e, b, w, _, e2, n, _, _, _, k⟩, a, z => by
    subst e2; unfold owns at z
    rcases z with z | z
    · cases z; exact n
    · exact KPost.none k a z
theorem none_before {C : DC} {H0 H : Hp} (g : GI C H) (e : Ext C H0 H) {a : Addr} (n : H a = none) : H0 a = none := by
  cases q : H0 a with
  | none => rfl
  | some o =>
    by_cases s : C.Spc a
    · exact absurd n (DL.GI.some g s)
    · rw [e a o q s] at n; cases n
theorem KPost.before {C : DC} {H0 H H' : Hp} (g : GI C H) (e : Ext C H0 H) : ∀ {ks : List Kd} {O : Addr → Prop} {ds : List D} {vs : List V}, KPost C O H H' ks ds vs → KPost C O H0 H' ks ds vs
  | [], _, _, _, h => h
  | .d :: ks, _, _, _, ⟨d, f, v, w, e1, e2, r, k⟩ => ⟨d, f, v, w, e1, e2, r, KPost.before g e k⟩
  | .o :: ks, _, _, _, ⟨d, f, a, w, e1, e2, n, od, no, r, k⟩ => ⟨d, f, a, w, e1, e2, none_before g e n, od, no, r, KPost.before g e k⟩
def liftK (B : BX) (ks : List Kd) (t : WA) : TA := fun σ H R => ∃ ρ α P, EnvOk B α σ H ρ ∧ t ρ P ∧
  ∀ ds vs H', P ds → GI B.C H' → Ext B.C H H' → KPost B.C (Own B.S0 ρ α) H H' ks ds vs → R vs H'
section
variable {X : Cx} {B : BX} {e : Expr} {es : List Expr} {pos : Pos} {fl : Fl} {ks : List Kd}
theorem pa_ex {t : Addr → TA} (h : ∀ a, PA X es (t a)) : PA X es (fun σ H K => ∃ a, t a σ H K) := ⟨fun p pins s σ H Q I ⟨a, q⟩ => (h a).run p pins s σ H Q I q⟩
theorem jk0 : PA X [] (liftK B [] wNil) := pa_nil.weak fun σ H R ⟨ρ, α, P, E, hw, post⟩ => post [] [] H hw E.gi Ext.refl ⟨rfl, rfl⟩
theorem jkd {t : WE} {u : WA} (h : PE X e (liftE B fl t)) (k : PA X es (liftK B ks u)) (hf : fl ≠ .t := by intro z; cases z) (hs : starEach (e :: es) X.env = (false, eval e X.env) :: starEach es X.env := by rfl) : PA X (e :: es) (liftK B (.d :: ks) (wCons t u)) :=
  (pa_cons (h.toC hf) k hs).weak fun σ H R ⟨ρ, α, P, E, hw, post⟩ => ⟨ρ, α, _, E, hw, fun d v H1 hd g1 e1 r1 => ⟨ρ, α, _, E.ext g1 e1, hd, fun ds vs H2 hds g2 e2 r2 =>
    post _ _ H2 hds g2 (e1.trans e2) ⟨d, ds, v, vs, rfl, rfl, Rp.move g1 (E.ext g1 e1).on.oo (Stay.of_ext e2) (fun a z => z.elim .inl fun z => .inr (r2.none a z)) r1.rc, r2.before g1 e1⟩⟩⟩
theorem jko {t : WE} {u : WA} (h : PE X e (liftE B .n t)) (k : ∀ a, PA X es (liftK (B.add a) ks u)) (hs : starEach (e :: es) X.env = (false, eval e X.env) :: starEach es X.env := by rfl) : PA X (e :: es) (liftK B (.o :: ks) (wCons (fun ρ Q => t ρ fun d => OwnD d ∧ Q d) u)) :=
  (pa_cons h (pa_ex k) hs).weak fun σ H R ⟨ρ, α, P, E, hw, post⟩ => ⟨ρ, α, _, E, hw, fun d v H1 hd g1 e1 ⟨a, ev, ha, r1⟩ => by
    subst ev
    obtain ⟨_, ea, ns, o, qo, oo⟩ := rt_own r1 hd.1
    cases ea
    refine ⟨a, ρ, α, _, E.addS ha g1 e1 ⟨o, qo, oo⟩, hd.2, fun ds vs H2 hds g2 e2 r2 => ?_⟩
    have hO : ∀ b, ((Own B.S0 ρ α b ∨ b = a) → Own (B.add a).S0 ρ α b) ∧ (Own (B.add a).S0 ρ α b → Own B.S0 ρ α b ∨ b = a) := fun b => ⟨fun z => z.elim (fun z => z.elim (fun z => .inl (.inl z)) .inr) fun z => .inl (.inr z), fun z => z.elim (fun z => z.elim (fun z => .inl (.inl z)) .inr) fun z => .inl (.inr z)⟩
    have hE : Own (B.add a).S0 ρ α = fun b => Own B.S0 ρ α b ∨ b = a := funext fun b => propext ⟨(hO b).2, (hO b).1⟩
    have r2' : KPost B.C (fun b => Own B.S0 ρ α b ∨ b = a) H1 H2 ks ds vs := by rw [← hE]; exact r2
    have oo1 : OO (fun b => Own B.S0 ρ α b ∨ b = a) H1 := fun b z => z.elim (fun z => (E.ext g1 e1).on.oo b z) fun z => by rw [z]; exact ⟨o, qo, oo⟩
    have no : ¬ owns ks vs a := fun z => by
      have z := r2'.none a z
      rw [qo] at z; cases z
    exact post _ _ H2 hds g2 (e1.trans e2) ⟨d, ds, a, vs, rfl, rfl, ha, hd.1, no, RpT.move g1 oo1 e2 (fun b z => z.elim .inl fun z => .inr (r2'.none b z)) r1, r2'.before g1 e1⟩⟩
end
def sets : L2.St → List Nat → List V → L2.St
  | σ, i :: js, v :: vs => sets (σ.set i (some v)) js vs
  | σ, _, _ => σ
def setsE : Ev → List Nat → List Kd → List D → Ev
  | ρ, i :: js, .d :: ks, d :: ds => setsE (ρ.set i (some (.dat d))) js ks ds
  | ρ, i :: js, .o :: ks, d :: ds => setsE (ρ.set i (some (.own d))) js ks ds
  | ρ, _, _, _ => ρ
section
variable {B : BX} {α : Nat → Addr} {σ : L2.St} {H H' : Hp} {ρ : Ev}
theorem EnvOk.shrink {S : Addr → Prop} {S' : Addr → Prop} (E : EnvOk (B.adds S) α σ H ρ) (h : ∀ a, S' a → S a) : EnvOk (B.adds S') α σ H ρ :=
  ⟨E.gi, E.rel, E.len, fun i s z => by obtain ⟨v, h1, h2⟩ := E.slot i s z; exact ⟨v, h1, SlotOk.mono (B := B.adds S) (O' := Own (B.adds S').S0 ρ α) (fun a z => z.elim (fun z => z.elim (fun z => .inl (.inl z)) fun z => .inl (.inr (h a z))) .inr) h2⟩, E.inj, fun a z => E.s0 a (z.elim .inl fun z => .inr (h a z))⟩
/-- an address set aside becomes an owned slot's -/
theorem EnvOk.claim {S : Addr → Prop} {i : Nat} {d : D} {a : Addr} (E : EnvOk (B.adds fun b => b = a ∨ S b) α σ H ρ) (h0 : B.H0 a = none) (nS : ¬ S a) (nB : ¬ B.S0 a) (od : OwnD d) (r : RpT B.C (Own (B.adds fun b => b = a ∨ S b).S0 ρ α) H d (.ref a)) :
    EnvOk (B.adds S) (fun j => if j = i then a else α j) (σ.set i (some (.ref a))) H (ρ.set i (some (.own d))) := by
  have hS : ∀ b, OwnS (ρ.set i (some (.own d))) (fun j => if j = i then a else α j) b → OwnS ρ α b ∨ b = a := fun b ⟨j, f, h1, h2⟩ => by
    have h2 : (if j = i then a else α j) = b := h2
    rcases getset h1 with ⟨rfl, q, _⟩ | ⟨hj, q⟩
    · rw [if_pos rfl] at h2; exact .inr h2.symm
    · rw [if_neg hj] at h2; exact .inl ⟨j, f, q, h2⟩
  have hO : ∀ b, Own (B.adds S).S0 (ρ.set i (some (.own d))) (fun j => if j = i then a else α j) b → Own (B.adds fun b => b = a ∨ S b).S0 ρ α b := fun b z => z.elim (fun z => .inl (z.elim .inl fun z => .inr (.inr z))) fun z => (hS b z).elim .inr fun z => .inl (.inr (.inl z))
  have na : ∀ j f, ρ[j]? = some (some (Slot.own f)) → α j ≠ a := fun j f h z => (E.s0 a (.inr (.inl rfl))).2.2 ⟨j, f, h, z⟩
  refine ⟨E.gi, ⟨E.rel.keep, fun b z => ?_⟩, by rw [List.length_set, List.length_set]; exact E.len, fun j s h => ?_, fun j k u f h1 h2 => ?_, fun b h => ?_⟩
  · rcases hS b z with z | z
    · exact E.rel.own b z
    · exact .inr (by rw [z]; exact h0)
  · rcases getset h with ⟨rfl, q, hl⟩ | ⟨hj, q⟩
    · cases q
      exact ⟨.ref a, List.getElem?_set_self (by rw [E.len]; exact hl), od, by rw [if_pos rfl], r.mono hO⟩
    · obtain ⟨w, h1, h2⟩ := E.slot j s q
      refine ⟨w, by rw [List.getElem?_set_ne (Ne.symm hj)]; exact h1, ?_⟩
      show SlotOk _ _ (if j = i then a else α j) H w s
      rw [if_neg hj]
      exact SlotOk.mono (B := B.adds fun b => b = a ∨ S b) (O' := _) hO h2
  · show (if j = i then a else α j) = (if k = i then a else α k) → j = k
    rcases getset h1 with ⟨rfl, q, hl⟩ | ⟨hj, q⟩
    · rcases getset h2 with ⟨rfl, q', hl⟩ | ⟨hk, q'⟩
      · intro _; rfl
      · intro z
        rw [if_pos rfl, if_neg hk] at z
        exact absurd z.symm (na k f q')
    · rcases getset h2 with ⟨rfl, q', hl⟩ | ⟨hk, q'⟩
      · intro z
        rw [if_neg hj, if_pos rfl] at z
        exact absurd z (na j u q)
      · intro z
        rw [if_neg hj, if_neg hk] at z
        exact E.inj j k u f q q' z
  · have h' : (B.adds fun b => b = a ∨ S b).S0 b := h.elim .inl fun z => .inr (.inr z)
    refine ⟨(E.s0 b h').1, (E.s0 b h').2.1, fun z => ?_⟩
    rcases hS b z with z | z
    · exact (E.s0 b h').2.2 z
    · subst z
      exact h.elim nB nS
theorem h0_none (E : EnvOk B α σ H ρ) {a : Addr} (ha : H a = none) : B.H0 a = none := by
  cases q : B.H0 a with
  | none => rfl
  | some o =>
    by_cases s : B.C.Spc a
    · exact absurd ha (E.gi.some s)
    · rw [E.rel.keep a o q (fun z => z) s] at ha; cases ha
theorem EnvOk.addsS (E : EnvOk B α σ H ρ) {S : Addr → Prop} (hS : ∀ a, S a → H a = none ∧ ¬ B.C.Spc a ∧ ∃ u, H' a = some u ∧ OwnO u) (g : GI B.C H') (e : Ext B.C H H') : EnvOk (B.adds S) α σ H' ρ := by
  have E2 := E.ext g e
  refine ⟨g, E2.rel, E2.len, fun i s h => ?_, E2.inj, fun b hb => ?_⟩
  · obtain ⟨v, h1, h2⟩ := E.slot i s h
    refine ⟨v, h1, ?_⟩
    have hO : ∀ b, Own (B.adds S).S0 ρ α b → Own B.S0 ρ α b ∨ H b = none := fun b z => z.elim (fun z => z.elim (fun z => .inl (.inl z)) fun z => .inr (hS b z).1) fun z => .inl (.inr z)
    cases s with
    | dat d => exact Rp.move E.gi E.on.oo (Stay.of_ext e) hO h2
    | own d => exact ⟨h2.1, h2.2.1, RpT.move E.gi E.on.oo e hO h2.2.2⟩
  · rcases hb with hb | hb
    · exact E2.s0 b hb
    · exact ⟨(hS b hb).2.2, (hS b hb).2.1, fun z => by
        obtain ⟨_, o, q, _⟩ := own_obj E z
        rw [(hS b hb).1] at q; cases q⟩
theorem KPost.obj {C : DC} {H H' : Hp} : ∀ {ks : List Kd} {O : Addr → Prop} {ds : List D} {vs : List V}, KPost C O H H' ks ds vs → ∀ a, owns ks vs a → ¬ C.Spc a ∧ ∃ u, H' a = some u ∧ OwnO u
  | [], _, _, _, _, a, z => by unfold owns at z; exact z.elim
  | .d :: ks, _, _, _, ⟨d, e, v, w, _, e2, _, k⟩, a, z => by subst e2; unfold owns at z; exact KPost.obj k a z
  | .o :: ks, _, _, _, ⟨d, e, b, w, _, e2, n, od, _, r, k⟩, a, z => by
    subst e2; unfold owns at z
    rcases z with z | z
    · cases z
      obtain ⟨_, q, s, o⟩ := rt_own r od
      cases q
      exact ⟨s, o⟩
    · exact KPost.obj k a z
/-- all are stored -/
theorem EnvOk.stores {H0 : Hp} : ∀ (ks : List Kd) (js : List Nat) (ds : List D) (vs : List V) (O : Addr → Prop) (α : Nat → Addr) (σ : L2.St) (ρ : Ev), js.length = ks.length → EnvOk (B.adds (owns ks vs)) α σ H' ρ → KPost B.C O H0 H' ks ds vs → (∀ a, Own B.S0 ρ α a → O a) → (∀ a, H0 a = none → B.H0 a = none ∧ ¬ B.S0 a) →
    ∃ α', EnvOk B α' (sets σ js vs) H' (setsE ρ js ks ds) ∧ (∀ a, OwnS (setsE ρ js ks ds) α' a → OwnS ρ α a ∨ H0 a = none)
  | [], js, ds, vs, O, α, σ, ρ, hl, E, k, _, _ => by
    obtain ⟨rfl, rfl⟩ := k
    match js, hl with
    | [], _ => exact ⟨α, by
        have e : B.adds (owns [] []) = B := by
          unfold BX.adds
          have : (fun b => B.S0 b ∨ owns [] [] b) = B.S0 := funext fun b => propext ⟨fun z => z.elim (fun z => z) fun z => by unfold owns at z; exact z.elim, .inl⟩
          rw [this]
        unfold sets setsE
        rw [e] at E
        exact E, fun a z => .inl z⟩
  | .d :: ks, js, ds, vs, O, α, σ, ρ, hl, E, k, hO, hn => by
    match js, hl with
    | i :: js, hl =>
      obtain ⟨d, e, v, w, rfl, rfl, r, k⟩ := k
      have E1 : EnvOk (B.adds (owns ks w)) α σ H' ρ := E
      have hr : Rp B.C (Own (B.adds (owns ks w)).S0 ρ α) H' d v := Rp.mono (fun a z => z.elim (fun z => z.elim (fun z => .inl (hO a (.inl z))) .inr) fun z => .inl (hO a (.inr z))) r
      obtain ⟨α', q1, q2⟩ := EnvOk.stores ks js e w O α (σ.set i (some v)) (ρ.set i (some (.dat d))) (by simpa using hl) (E1.setDat hr) k (fun a z => hO a (own_dat z)) hn
      exact ⟨α', q1, fun a z => (q2 a z).elim (fun z => .inl (ownS_dat z)) .inr⟩
  | .o :: ks, js, ds, vs, O, α, σ, ρ, hl, E, k, hO, hn => by
    match js, hl with
    | i :: js, hl =>
      obtain ⟨d, e, a, w, rfl, rfl, n, od, no, r, k⟩ := k
      have E1 : EnvOk (B.adds fun b => b = a ∨ owns ks w b) α σ H' ρ := E.shrink fun b z => by
        unfold owns
        exact z.elim (fun z => .inl (by rw [z])) .inr
      have E2 := E1.claim (i := i) (hn a n).1 no (hn a n).2 od (r.mono fun b z => z.elim (fun z => z.elim (fun z => .inl (.inl (hO b (.inl z)))) fun z => z.elim (fun z => .inl (.inr z)) .inr) fun z => .inl (.inl (hO b (.inr z))))
      have hS : ∀ b, OwnS (ρ.set i (some (.own d))) (fun j => if j = i then a else α j) b → OwnS ρ α b ∨ b = a := fun b ⟨j, f, h1, h2⟩ => by
        have h2 : (if j = i then a else α j) = b := h2
        rcases getset h1 with ⟨rfl, q, _⟩ | ⟨hj, q⟩
        · rw [if_pos rfl] at h2; exact .inr h2.symm
        · rw [if_neg hj] at h2; exact .inl ⟨j, f, q, h2⟩
      obtain ⟨α', q1, q2⟩ := EnvOk.stores ks js e w _ _ (σ.set i (some (.ref a))) (ρ.set i (some (.own d))) (by simpa using hl) E2 k (fun b z => z.elim (fun z => .inl (hO b (.inl z))) fun z => (hS b z).elim (fun z => .inl (hO b (.inr z))) .inr) hn
      exact ⟨α', q1, fun b z => (q2 b z).elim (fun z => (hS b z).elim .inl fun z => .inr (by rw [z]; exact n)) .inr⟩
end
section
variable {X : Cx} {B : BX} {e : Expr} {es : List Expr} {pos : Pos} {fl : Fl} {ks : List Kd}
/-- a, b = x, y; a, b, c = x, y, z -/
def wPar (js : List Nat) (ks : List Kd) (t : WA) : WS := fun E ρ => t ρ fun ds => ds.length = js.length ∧ E.nx (setsE ρ js ks ds)
theorem kpost_len {C : DC} {H H' : Hp} : ∀ {ks : List Kd} {O : Addr → Prop} {ds : List D} {vs : List V}, KPost C O H H' ks ds vs → vs.length = ks.length ∧ ds.length = ks.length
  | [], _, _, _, ⟨rfl, rfl⟩ => ⟨rfl, rfl⟩
  | .d :: ks, _, _, _, ⟨d, e, v, w, rfl, rfl, _, k⟩ => by have := kpost_len k; simp [this]
  | .o :: ks, _, _, _, ⟨d, e, b, w, rfl, rfl, n, _, _, _, k⟩ => by have := kpost_len k; simp [this]
theorem par_fin {ρ : Ev} {α : Nat → Addr} {σ : L2.St} {H H1 : Hp} {E : WEnds} {D : Ends} {js : List Nat} {ds : List DL.D} {vs : List V} (hl : js.length = ks.length) (ok : EnvOk B α σ H ρ) (p : SPost B ρ α H E D) (hd : ds.length = js.length ∧ E.nx (setsE ρ js ks ds)) (g1 : GI B.C H1) (e1 : Ext B.C H H1) (k : KPost B.C (Own B.S0 ρ α) H H1 ks ds vs) : D.nx (sets σ js vs) H1 := by
  have E1 := ok.addsS (S := owns ks vs) (fun a z => ⟨k.none a z, k.obj a z⟩) g1 e1
  obtain ⟨α', q1, q2⟩ := EnvOk.stores ks js ds vs _ α σ ρ hl E1 k (fun a z => z) (fun a z => ⟨h0_none ok z, fun s => by obtain ⟨⟨u, q, _⟩, _⟩ := ok.s0 a s; rw [z] at q; cases q⟩)
  exact p.nx _ α' _ H1 hd.2 q1 ⟨fun a o h n s => e1 a o h s, q2⟩
theorem js_par {i j : Nat} {t : WA} {st : Stmt} (hl : ks.length = 2) (h : ∀ ta, PA X es ta → PS X st (tPar i j ta)) (ha : PA X es (liftK B ks t)) : PS X st (liftS B (wPar [i, j] ks t)) :=
  (h _ ha).weak fun D σ H ⟨ρ, α, E, ok, hw, p⟩ => ⟨ρ, α, _, ok, hw, fun ds vs H1 hd g1 e1 k => by
    have hv := (kpost_len k).1
    have q := par_fin (js := [i, j]) hl.symm ok p hd g1 e1 k
    match vs, hv.trans hl with
    | [v, w], _ => exact ⟨v, w, rfl, q⟩⟩
theorem js_par3 {i j l : Nat} {t : WA} {st : Stmt} (hl : ks.length = 3) (h : ∀ ta, PA X es ta → PS X st (tPar3 i j l ta)) (ha : PA X es (liftK B ks t)) : PS X st (liftS B (wPar [i, j, l] ks t)) :=
  (h _ ha).weak fun D σ H ⟨ρ, α, E, ok, hw, p⟩ => ⟨ρ, α, _, ok, hw, fun ds vs H1 hd g1 e1 k => by
    have hv := (kpost_len k).1
    have q := par_fin (js := [i, j, l]) hl.symm ok p hd g1 e1 k
    match vs, hv.trans hl with
    | [u, v, w], _ => exact ⟨u, v, w, rfl, q⟩⟩
end
end DL

set_option Elab.async false
set_option linter.all false
set_option maxRecDepth 100000
set_option maxHeartbeats 4000000
namespace DL
open PySem PySem.Spec PyProof.Rows L2 NdefX LamX

/-! ### x.append(e), x an owned list -/
def withOwn (ρ : Ev) (i : Nat) (k : D → Prop) : Prop := match ρ[i]? with
  | some (some (.own d)) => k d
  | _ => False
theorem withOwn_get {ρ : Ev} {i : Nat} {k : D → Prop} (h : withOwn ρ i k) : ∃ d, ρ[i]? = some (some (Slot.own d)) ∧ k d := by
  unfold withOwn at h
  split at h
  · exact ⟨_, ‹_›, h⟩
  · exact h.elim
/-- a method that changes the owned thing in slot i: what it makes of it -/
abbrev DMu := D → List D → (D → D → Prop) → Prop
def wMu (i : Nat) (dm : DMu) (ta : WA) : WS := fun E ρ => withOwn ρ i fun _ => ta ρ fun es => withOwn ρ i fun d => dm d es fun d' _ => OwnD d' ∧ E.nx (ρ.set i (some (.own d')))
def rMu (C : DC) (dm : DMu) : V → List V → Hp → VK → Prop := fun x vs H R => ∃ O d es a P, x = .ref a ∧ GI C H ∧ ON C O H ∧ OwnD d ∧ RpT C O H d (.ref a) ∧ RpL C O H es vs ∧ O a ∧ ¬ C.Spc a ∧ dm d es P ∧
  ∀ d' r v o o', H a = some o → OwnO o → P d' r → RpT C O (upd H a o') d' (.ref a) → Rp C O (upd H a o') r v → R v (upd H a o')
variable {X : Cx} {B : BX} {e o : Expr} {es : List Expr} {pos apos cpos : Pos} {fl : Fl} {name : Str} {id : String} {T : String}
theorem rel_write {C : DC} {O : Addr → Prop} {H : Hp} {a : Addr} {o' : HO} (ho : O a) : Rel C O H O (upd H a o') := ⟨fun b u e n _ => by rw [upd_ne (fun z => n (by rw [z]; exact ho))]; exact e, fun _ z => .inl z⟩
theorem js_mu {i : Nat} {dm : DMu} {x : Str} {p : Pos} {ta : WA} (hK : X.K = B.C.K) (pa : PlainAttrs T) (slot : PySem.Slot T name id) (hty : typeOf (.builtin id) = pure (.type "method_descriptor")) (hm : MtR X id (rMu B.C dm)) (hv : PE X (.Name x p) (tVar i)) (ha : PA X (e :: es) (liftA B ta))
    (hT : ∀ d, OwnD d → (∀ es P, dm d es P → d.isT T))
    (hbase : attributeBase (.Name x p) name X.env (eval (.Name x p) X.env) = eval (.Name x p) X.env := by rfl)
    (hfew : ((backTo cpos (starEach (e :: es) X.env)).all (fun x => !x.1) && (backToKw cpos (keywordEach [] X.env)).all (fun x => x.1.isSome)
      && decide ((e :: es).length + ([] : List Keyword).length + (if ([] : List Keyword).isEmpty then 0 else 1) < 30)) = true := by rfl)
    (hline : (apos.endLine == cpos.line) = true := by rfl) (hs : starEach (e :: es) X.env = (false, eval e X.env) :: starEach es X.env := by rfl) (hplain : (backTo cpos (starEach es X.env)).any (·.1) = false := by rfl)
    (hsw : swapsWith (.Call (.Attribute (.Name x p) name apos) (e :: es) [] cpos) none pos.line X.env = pure false := by rfl) :
    PS X (.Expr (.Call (.Attribute (.Name x p) name apos) (e :: es) [] cpos) pos) (liftS B (fun E ρ => withOwn ρ i (fun d => d.isT T) ∧ wMu i dm ta E ρ)) :=
  (ps_expr (pe_bmX pa slot hty hm hv ha hbase hfew hline hs hplain) hsw).weak fun D σ H ⟨ρ, α, E, ok, ⟨ht, hw⟩, p⟩ => by
    obtain ⟨d0, hr0, hw⟩ := withOwn_get hw
    obtain ⟨d1, hr1, ht⟩ := withOwn_get ht
    rw [hr0] at hr1; cases hr1
    obtain ⟨h1, od, r⟩ := slot_own ok hr0
    refine ⟨.ref (α i), h1, by rw [hK]; exact ty_isT r ht, ρ, α, _, ok, hw, fun ds vs H1 hd g1 e1 r1 => ?_⟩
    have ok1 := ok.ext g1 e1
    obtain ⟨d, hr, hd⟩ := withOwn_get hd
    rw [hr0] at hr; cases hr
    obtain ⟨s, u, q, oo⟩ := own_obj ok1 ⟨i, d0, hr0, rfl⟩
    refine ⟨Own B.S0 ρ α, d0, ds, α i, _, rfl, g1, ok1.on, od, (slot_own ok1 hr0).2.2, r1, .inr ⟨i, d0, hr0, rfl⟩, s, hd, fun d' rr v u u' q oo hp r2 _ => ?_⟩
    have ok2 := ok1.change (o' := u') hr0 hp.1 r2
    have R1 : Rel B.C (OwnS ρ α) H (OwnS (ρ.set i (some (.own d'))) α) (upd H1 (α i) u') := ((Rel.of_ext e1).trans g1 (rel_write ⟨i, d0, hr0, rfl⟩)).less fun b ⟨j, f, z1, z2⟩ => by
      rcases getset z1 with ⟨rfl, _, _⟩ | ⟨_, z⟩
      · exact ⟨j, d0, hr0, z2⟩
      · exact ⟨j, f, z, z2⟩
    exact p.nx _ α σ _ hp.2 ok2 R1
def dAppend : DMu := fun d es Q => match d with
  | .lst ds => match es with
    | [e] => ds.length < sizeLine ∧ Q (.lst (ds ++ [e])) .non
    | _ => False
  | _ => False
theorem rl_1c {C : DC} {O : Addr → Prop} {H : Hp} {d : D} {vs : List V} (h : RpL C O H [d] vs) : ∃ v, vs = [v] ∧ Rp C O H d v := by
  obtain ⟨v, ws, e, r, t⟩ := rl_cons.mp h
  rw [rl_nil.mp t] at e
  exact ⟨v, e, r⟩
theorem mt_dappend {C : DC} : MtR X "list.append" (rMu C dAppend) := mt_weak mt_append fun x vs H R ⟨O, d, es, a, P, ex, g, on, od, r, rs, ho, ns, h, post⟩ => by
  unfold dAppend at h
  split at h
  · split at h
    · rename_i ds y
      obtain ⟨v, ev, r2⟩ := rl_1c rs
      subst ev ex
      obtain ⟨b, xs, eb, s, q, rl⟩ := rt_lst r
      cases eb
      refine ⟨a, xs, v, rfl, rfl, q, by rw [rl.length]; exact h.1, ?_⟩
      exact post _ _ _ _ _ q .lst h.2 ⟨a, _, rfl, s, upd_same, RpL.write .lst q ho (rl.app (RpL.cons r2 RpL.nil))⟩ (rp_non.mpr rfl)
    · exact h.elim
  · exact h.elim

/-! ### targets that change an owned thing -/
structure MPost (B : BX) (α : Nat → Addr) (H H' : Hp) (ρ ρ' : Ev) : Prop where
  rel : Rel B.C (OwnS ρ α) H (OwnS ρ' α) H'
  own : ∀ a, OwnS ρ' α a → OwnS ρ α a
  rp : ∀ ds vs, RpL B.C (Own B.S0 ρ α) H ds vs → RpL B.C (Own B.S0 ρ' α) H' ds vs
def liftM (B : BX) (g : WG) : TG := fun v σ H K => ∃ ρ α d P, EnvOk B α σ H ρ ∧ Rp B.C (Own B.S0 ρ α) H d v ∧ g d ρ P ∧
  ∀ ρ' H', P ρ' → EnvOk B α σ H' ρ' → MPost B α H H' ρ ρ' → K σ H'
def liftMs (B : BX) (g : WGs) : TGs := fun vs σ H K => ∃ ρ α ds P, EnvOk B α σ H ρ ∧ RpL B.C (Own B.S0 ρ α) H ds vs ∧ g ds ρ P ∧
  ∀ ρ' H', P ρ' → EnvOk B α σ H' ρ' → MPost B α H H' ρ ρ' → K σ H'
theorem MPost.refl {α : Nat → Addr} {H : Hp} {ρ : Ev} : MPost B α H H ρ ρ := ⟨Rel.refl, fun _ z => z, fun _ _ z => z⟩
theorem MPost.trans {α : Nat → Addr} {H H1 H2 : Hp} {ρ ρ1 ρ2 : Ev} (g : GI B.C H1) (a : MPost B α H H1 ρ ρ1) (b : MPost B α H1 H2 ρ1 ρ2) : MPost B α H H2 ρ ρ2 :=
  ⟨a.rel.trans g b.rel, fun x z => a.own x (b.own x z), fun ds vs z => b.rp ds vs (a.rp ds vs z)⟩
theorem jm_nil : PGs X [] (liftMs B gsN) := ⟨fun pins s σ H vs us Q I r ⟨ρ, α, ds, P, ok, hr, ⟨e, hw⟩, p⟩ => pgs_nil.run pins s σ H vs us Q I r (by
  subst e
  exact ⟨rl_nil.mp hr, p ρ H hw ok MPost.refl⟩)⟩
theorem jm_cons {g : WG} {gs : WGs} (h1 : PG X e (liftM B g)) (h2 : PGs X es (liftMs B gs)) (hs : (assignEach (e :: es) X.env).map (·.2) = assign e X.env :: (assignEach es X.env).map (·.2) := by rfl) : PGs X (e :: es) (liftMs B (gsC g gs)) :=
  ⟨fun pins s σ H vs us Q I r ⟨ρ, α, ds, P, ok, hr, hw, p⟩ => (pgs_cons h1 h2 hs).run pins s σ H vs us Q I r (by
    cases ds with
    | nil => exact False.elim hw
    | cons d ds =>
      obtain ⟨v, ws, rfl, rv, rs⟩ := rl_cons.mp hr
      exact ⟨v, ws, rfl, ρ, α, d, _, ok, rv, hw, fun ρ1 H1 h1 ok1 q1 => ⟨ρ1, α, ds, P, ok1, q1.rp _ _ rs, h1, fun ρ2 H2 q ok2 q2 => p ρ2 H2 q ok2 (q1.trans ok1.gi q2)⟩⟩)⟩
theorem jm_tup {ts : List Expr} {k n : Nat} {gs : WGs} (hK : X.K = B.C.K) (hc : X.calm = true) (h : PGs X ts (liftMs B gs)) (hn : (assignEach ts X.env).length = n := by rfl) (hst : (assignEach ts X.env).findIdx? (·.1) = none := by rfl) : PG X (.Tuple ts k pos) (liftM B (gT n gs)) :=
  (pg_tup hc h hn hst).weak fun v σ H K ⟨ρ, α, d, P, ok, r, hw, p⟩ => by
    cases d <;> first
      | exact False.elim hw
      | (obtain ⟨a, xs, e, q, r⟩ := rp_tup.mp r
         exact ⟨a, xs, e, by rw [hK]; exact q.sq, by rw [RpL.length r]; exact hw.1, ρ, α, _, P, ok, r, hw.2, p⟩)
      | (unfold Rp at r
         obtain ⟨a, x, y, e, q, r1, r2⟩ := r
         exact ⟨a, [x, y], e, by rw [hK]; exact q, hw.1, ρ, α, _, P, ok, RpL.cons r1 (RpL.cons r2 RpL.nil), hw.2, p⟩)
theorem js_asgM {t : WE} {tg : Expr} {g : WG} (h : PE X e (liftE B fl t)) (hg : PG X tg (liftM B g)) (hf : fl ≠ .t := by intro z; cases z) (hs : swapsWithSole [tg] e pos.line X.env = pure false := by rfl) (hw : swappedStores [tg] e X.env = pure none := by rfl)
    (h1 : (assignEach [tg] X.env).map (·.2) = [assign tg X.env] := by rfl) : PS X (.Assign [tg] e pos) (liftS B (wAsg t g)) :=
  (ps_asg (h.toC hf) hg hs hw h1).weak fun D σ H ⟨ρ, α, E, ok, hw, p⟩ => ⟨ρ, α, _, ok, hw, fun d v H' hd g1 e1 r => ⟨ρ, α, d, E.nx, ok.ext g1 e1, r, hd, fun ρ' H2 h' ok' q => p.nx ρ' α σ H2 h' ok' ((Rel.of_ext e1).trans g1 q.rel)⟩⟩
/-- x[i] = .. of an owned list -/
def gIx (i : Nat) (ti : WE) : WG := fun d ρ P => withOwn ρ i fun z => match z with
  | .lst ds => ti ρ fun k => match k with
    | .int n => ∃ j, ixN ds.length n = some j ∧ P (ρ.set i (some (.own (.lst (ds.set j d)))))
    | _ => False
  | _ => False
theorem jm_ix {i : Nat} {x : Str} {p : Pos} {ti : WE} {ie : Expr} (hv : PE X (.Name x p) (tVar i)) (hi : PE X ie (liftE B fl ti))
    (ha : ∀ v, assign (.Subscript (.Name x p) ie pos) X.env v = (do
      let ov ← holding [v] (eval (.Name x p) X.env)
      let iv ← holding [v, ov] (eval ie X.env)
      standAt pos
      holding [v, ov, iv] (setItem ov iv v)
      release [v, ov, iv] []) := by intro _; rfl) : PG X (.Subscript (.Name x p) ie pos) (liftM B (gIx i ti)) :=
  (pg_sub hv hi.toT set_list ha).weak fun v σ H K ⟨ρ, α, d, P, ok, r, hw, p⟩ => by
    obtain ⟨z, hz, hw⟩ := withOwn_get hw
    obtain ⟨h1, od, hro⟩ := slot_own ok hz
    cases z <;> first
      | exact False.elim hw
      | skip
    rename_i ds
    refine ⟨.ref (α i), h1, ρ, α, _, ok, hw, fun k w H1 hk g1 e1 r1 => ?_⟩
    have ok1 := ok.ext g1 e1
    obtain ⟨b, xs, eb, s, q, rl⟩ := rt_lst (slot_own ok1 hz).2.2
    cases eb
    cases k <;> first
      | exact False.elim hk
      | skip
    rename_i n
    obtain ⟨j, hj, hk⟩ := hk
    have ho : Own B.S0 ρ α (α i) := .inr ⟨i, _, hz, rfl⟩
    have hS : ∀ b, OwnS (ρ.set i (some (.own (.lst (ds.set j d))))) α b → OwnS ρ α b := fun b ⟨j', f, z1, z2⟩ => by
      rcases getset z1 with ⟨rfl, _, _⟩ | ⟨_, z⟩
      · exact ⟨j', _, hz, z2⟩
      · exact ⟨j', f, z, z2⟩
    have rd := Rp.ext ok.gi e1 r
    refine ⟨α i, xs, n, j, rfl, rt_int r1.rt, q, by rw [rl.length]; exact hj, p _ _ hk (ok1.change hz .lst ?_) ⟨?_, hS, fun es us z => ?_⟩⟩
    · exact ⟨α i, _, rfl, s, upd_same, RpL.write .lst q ho (rl.set j rd)⟩
    · exact ((Rel.of_ext e1).trans g1 (rel_write ⟨i, _, hz, rfl⟩)).less hS
    · exact RpL.mono (fun b z => z.elim .inl fun z => .inr (hS b z)) (RpL.write .lst q ho (RpL.ext ok.gi e1 z))

/-! ### chains of two comparisons -/
variable {a b c : Expr}
def wChain (d2 d2' : D2) (ta tb tc : WE) : WE := fun ρ Q => ta ρ fun x => tb ρ fun y => d2 x y fun k => match k with
  | .bl true => tc ρ fun z => d2' y z Q
  | .bl false => Q (.bl false)
  | _ => False
theorem je_chain {op op' : CmpOp} {d2 d2' : D2} {ta tb tc : WE} {f1 f2 f3 : Fl} (ho : OpR X (compareOp op) (rD2 B.C .c d2)) (ho' : OpR X (compareOp op') (rD2 B.C .c d2')) (ha : PE X a (liftE B f1 ta)) (hb : PE X b (liftE B f2 tb)) (hc : PE X c (liftE B f3 tc))
    (hm : lastMarks [op, op'] [b, c] = false := by with_unfolding_all rfl) : PE X (.Compare a [op, op'] [b, c] pos) (liftE B .c (wChain d2 d2' ta tb tc)) :=
  (pe_chain ho ho' ha.toT hb.toT hc.toT hm).weak fun σ H R ⟨ρ, α, P, E, hw, post⟩ =>
    ⟨ρ, α, _, E, hw, fun x v H1 hx g1 e1 r1 => ⟨ρ, α, _, E.ext g1 e1, hx, fun y u H2 hy g2 e2 r2 =>
      ⟨_, x, y, _, g2, (E.ext g1 e1).on.ext e2, r1.ext g1 e2, r2, hy, fun k w H3 hk g3 e3 rk => by
        cases k <;> first
          | exact hk.elim
          | skip
        rename_i k
        refine ⟨k, rp_bl.mp rk.rc, ?_⟩
        have ok3 := ((E.ext g1 e1).ext g2 e2).ext g3 e3
        cases k with
        | false => exact iteF (post _ _ H3 hk g3 (e1.trans (e2.trans e3)) pc_bl)
        | true => exact iteT ⟨ρ, α, _, ok3, hk, fun z w H4 hz g4 e4 r4 => ⟨_, y, z, P, g4, ok3.on.ext e4, (r2.rt.ext g2 e3).ext g3 e4, r4, hz, fun r v H' hr g5 e5 rr => post r v H' hr g5 (e1.trans (e2.trans (e3.trans (e4.trans e5)))) rr.rc⟩⟩⟩⟩⟩
theorem jt_chain {op op' : CmpOp} {d2 d2' : D2} {ta tb tc : WE} {f1 f2 f3 : Fl} (ho : OpR X (compareOp op) (rD2 B.C .c d2)) (ho' : OpR X (compareOp op') (rD2 B.C .c d2')) (ha : PE X a (liftE B f1 ta)) (hb : PE X b (liftE B f2 tb)) (hc : PE X c (liftE B f3 tc))
    (hm : lastMarks [op, op'] [b, c] = false := by with_unfolding_all rfl) : PT X (.Compare a [op, op'] [b, c] pos) (liftT B (wTest (wChain d2 d2' ta tb tc))) :=
  (pt_chain ho ho' ha.toT hb.toT hc.toT hm).weak fun σ H R ⟨ρ, α, P, E, hw, post⟩ =>
    ⟨ρ, α, _, E, hw, fun x v H1 hx g1 e1 r1 => ⟨ρ, α, _, E.ext g1 e1, hx, fun y u H2 hy g2 e2 r2 =>
      ⟨_, x, y, _, g2, (E.ext g1 e1).on.ext e2, r1.ext g1 e2, r2, hy, fun k w H3 hk g3 e3 rk => by
        cases k <;> first
          | exact hk.elim
          | skip
        rename_i k
        refine ⟨k, rp_bl.mp rk.rc, ?_⟩
        have ok3 := ((E.ext g1 e1).ext g2 e2).ext g3 e3
        cases k with
        | false => exact iteF ⟨false, rfl, post _ H3 hk g3 (e1.trans (e2.trans e3))⟩
        | true => exact iteT ⟨ρ, α, _, ok3, hk, fun z w H4 hz g4 e4 r4 => ⟨_, y, z, _, g4, ok3.on.ext e4, (r2.rt.ext g2 e3).ext g3 e4, r4, hz, fun r v H' hr g5 e5 rr => by
            cases r <;> first
              | exact hr.elim
              | exact ⟨_, rp_bl.mp rr.rc, post _ H' hr g5 (e1.trans (e2.trans (e3.trans (e4.trans e5))))⟩⟩⟩⟩⟩⟩
/-- a constant of the module -/
theorem je_glob {x : Str} {v : V} {u : Value} {d : D} (hg : Gl X x) (hm : X.mg x = some u) (r : L2.RelV v u) (hr : ∀ O H, Rp B.C O H d v) (hd : (x == ("__debug__" : Str)) = false := by decide) : PE X (.Name x pos) (liftE B .c (wC d)) := je_const (pe_glob hg hm r hd) hr
end DL

set_option Elab.async false
set_option linter.all false
set_option maxRecDepth 100000
set_option maxHeartbeats 4000000
namespace DL
open PySem PySem.Spec PyProof.Rows L2 NdefX LamX

/-! ### enumerate of a tuple -/
theorem enumNew {v : Value} {ob : Obj} {G : Heap → Prop} (Bg : Begins v ob G) :
    Meets (Builtin.«enumerate.__new__» ⟨[.type "enumerate", v], []⟩) (fun _ R st => G st.heap ∧
      R (.ok (.ret (.ref (st.heap.push ob).objs.size))) { st with heap := (st.heap.push ob).push { cls := .type "enumerate", data := .fields #[.none, .bool false, .ref st.heap.objs.size, rawInt 0, .none, .none] } }) :=
  .of_wp fun pr wd Ar R st hh => by
    obtain ⟨hp0, g0, d0, tk0, os0⟩ := st
    obtain ⟨hG, hh⟩ := hh
    have hsub0 := sub_enumerate
    have qi : ∀ {A' : Around} {E' : Value → Shared → Prop} {Q' : Value → Shared → Prop}, Q' (.ref hp0.objs.size) ⟨hp0.push ob, g0, d0, tk0, os0⟩ → wpAny (model pr wd) A' (pyIter v) Q' E' ⟨hp0, g0, d0, tk0, os0⟩ :=
      fun q => Bg.iter pr wd _ _ ⟨hp0, g0, d0, tk0, os0⟩ _ hG q
    wp_walk using qi
    refine wpAny_stack_any fun stk => wpAny_pure ?_
    split
    · rename_i c _ _ _ _ _
      cases (c == Value.type "enumerate") <;> (wp_walk using qi; exact ⟨_, rfl, hh⟩)
    · wp_walk using qi
      exact ⟨_, rfl, hh⟩
theorem enumCall {P : Program} {w : World} {A : Around} {E : Value → Shared → Prop} {st : Shared} {v : Value} {ob : Obj} {G : Heap → Prop} {Q : Value → Shared → Prop} (Bg : Begins v ob G) (hG : G st.heap)
    (h : ∀ hp, IsEnum hp (st.heap.objs.size + 1) st.heap.objs.size 0 .none → hp.get? st.heap.objs.size = some ob → (∀ b o, st.heap.get? b = some o → hp.get? b = some o) → Q (.ref (st.heap.objs.size + 1)) { st with heap := hp }) :
    wpAny (model P w) A (call (.type "enumerate") [v]) Q E st := by
  refine callType_new F.called_enumerate (by decide) (F.typeCall_enumerate_1 _) (F.newCall_enumerate_1 _) (fun o2 => F.args_object_init_2 o2 _) F.entry_enumerate_new
    (enumNew Bg) ⟨hG, ?_⟩
  have ez : (st.heap.push ob).objs.size = st.heap.objs.size + 1 := Heap.size_push ..
  show _ ∧ _
  rw [ez]
  have en : IsEnum ((st.heap.push ob).push { cls := .type "enumerate", data := .fields #[.none, .bool false, .ref st.heap.objs.size, rawInt 0, .none, .none] }) (st.heap.objs.size + 1) st.heap.objs.size 0 .none := by
    have q := Heap.get?_push_size (st.heap.push ob) (o := { cls := .type "enumerate", data := .fields #[.none, .bool false, .ref st.heap.objs.size, rawInt 0, .none, .none] }) rfl
    rw [ez] at q
    exact q
  exact ⟨⟨_, en, rfl⟩, h _ en (Heap.get?_push_of_some _ (Heap.get?_push_size _ Bg.free)) fun b o q => Heap.get?_push_of_some _ (Heap.get?_push_of_some _ q)⟩
/-- the tuple at a, each item in a new pair with its place -/
def IteT (K : PySem.W.Frag) (a : Addr) : It :=
  ⟨fun i H => ∃ (xs : List V) (x : V), SqT K H a xs ∧ xs[i]? = some x, fun i H v H' => ∃ p x, v = .ref p ∧ H p = none ∧ H' = upd H p (.tup [.int (i : Nat), x]) ∧ ∀ xs, SqT K H a xs → xs[i]? = some x, fun i H => ∃ xs : List V, SqT K H a xs ∧ xs.length = i⟩
theorem turn_enumT {P : Program} {w : World} {K : PySem.W.Frag} {ts : List Expr} {kk : Nat} {tp : Pos} (a e it : Addr) (hne : e ≠ it) (hae : a ≠ it) (hea : e ≠ a) :
    Turn P w K (.Tuple ts kk tp) (IteT K a) [e, it] e (fun i h => (∃ old, IsEnum h e it ((i : Nat) : Int) old) ∧ h.IsTupleIter it a i) where
  mem := List.mem_cons_self
  obj := fun i h st b hb => by
    obtain ⟨⟨old, he⟩, ⟨o, ho, hc, hd⟩⟩ := st
    rcases List.mem_cons.mp hb with z | z
    · subst z; exact ⟨_, he, fun v q => nomatch q⟩
    · rw [List.mem_singleton.mp z]; exact ⟨o, ho, fun v q => by rw [hd] at q; cases q⟩
  keep := fun i h h' ⟨⟨old, he⟩, hi⟩ k => ⟨⟨old, k e (by simp) _ he⟩, hi.at fun o q => k it (by simp) o q⟩
  item := by
    intro X hP hw hK hc i pins s σ H E I hf st hg
    subst hP hw hK
    obtain ⟨⟨old, he⟩, hit⟩ := st
    obtain ⟨xs, x, hq, hx⟩ := hg
    obtain ⟨its, rv, p, _⟩ := I.tuple hq
    obtain ⟨u, hu, ru⟩ := rv.get hx
    have pT : s.heap.IsTuple a its.toArray := p
    have el : e < s.heap.objs.size := Heap.lt_size he
    have il : it < s.heap.objs.size := by obtain ⟨_, q, _⟩ := hit; exact Heap.lt_size q
    have hi : i < its.toArray.size := by
      have := (List.getElem?_eq_some_iff.mp hu).1
      simpa using this
    have Dr : Draws X.prog X.w X.A.in1 it [it, a] its.toArray.size (fun i v => its.toArray[i]? = some v) (fun i h => h.IsTupleIter it a i ∧ h.IsTuple a its.toArray) := Draws.tuple (show X.A.in1.handled = none from I.ok.hd hc) it a hae its.toArray
    refine wpAny_pyNext_enum_itemD Dr he ⟨hit, pT⟩ hi hne (by simp [hne, hea]) fun y h' tk hy ho hs' hT hsz hk => ?_
    have ey : y = u := by
      have : its.toArray[i]? = some u := by simpa using hu
      exact Option.some.inj (hy.symm.trans this)
    subst ey
    refine ⟨_, rfl, wpAny_letOwnedTupleGo_enum (s := { s with heap := h', toks := tk + 1 }) ho fun h2 he2 sb => ?_⟩
    have hT2 : h2.get? s.heap.objs.size = some { cls := .type "tuple", data := .seq #[.int i tk, y] } := (sb.2 _ (Nat.ne_of_gt el)).trans hT
    have nw : ObjOk X.prog X.w (upd H s.heap.objs.size (.tup [.int (i : Nat), x])) h2 s.heap.objs.size (.tup [.int (i : Nat), x]) :=
      ⟨by show 2 ≤ sizeLine; decide, [.int i tk, y], .cons ⟨_, rfl⟩ (.cons ru .nil), ⟨_, hT2, rfl, _, rfl⟩⟩
    have I1 : Inv X pins σ (upd H s.heap.objs.size (.tup [.int (i : Nat), x])) { s with heap := h2, toks := tk + 1 } :=
      I.turnedNew (ch := [e, it]) (fun b ob hb q => (sb.2 b (fun z => hb (by simp [z]))).trans (hk b ob (fun z => hb (by simp [z])) (fun z => hb (by simp [z])) q)) hf (Nat.le_refl _) nw
    refine ⟨.ref s.heap.objs.size, _, I1, rfl, ⟨_, x, rfl, I.hok.fresh (Nat.le_refl _), rfl, fun ys hy => by rw [I.tuple_inj hy hq]; exact hx⟩, ⟨⟨y, ?_⟩, hs'.1.at fun o q => (sb.2 it (Ne.symm hne)).trans q⟩, fun b hb => ?_⟩
    · have e1 : ((i + 1 : Nat) : Int) = (i : Int) + 1 := by omega
      rw [e1]; exact he2
    · have hb2 : b < s.heap.objs.size := by
        rcases List.mem_cons.mp hb with z | z
        · rw [z]; exact el
        · rw [List.mem_singleton.mp z]; exact il
      rw [upd_ne (Nat.ne_of_lt hb2)]
      exact (hf b hb).1
  done := by
    intro X hP hw hK hc i pins s σ H E I hf st hg
    subst hP hw hK
    obtain ⟨⟨old, he⟩, hit⟩ := st
    obtain ⟨xs, hq, hx⟩ := hg
    obtain ⟨its, rv, p, _⟩ := I.tuple hq
    obtain ⟨f0, f1, f2, f3, f4, f5⟩ := hf it (by simp)
    have hl := rv.length
    have ei : its.toArray.size = i := by simp; omega
    have Dr : Draws X.prog X.w X.A.in1 it [it, a] its.toArray.size (fun i v => its.toArray[i]? = some v) (fun i h => h.IsTupleIter it a i ∧ h.IsTuple a its.toArray) := Draws.tuple (show X.A.in1.handled = none from I.ok.hd hc) it a hae its.toArray
    have pT : s.heap.IsTuple a its.toArray := p
    exact wpAny_pyNext_enum_endD Dr he (by rw [ei]; exact ⟨hit, pT⟩) fun h' eb => ⟨rfl, I.turned (t' := s.toks) (fun b o hb q => eb b o hb q) f0 f1 f3 f4 f5⟩
  self := fun A i s Q E st h => let ⟨⟨_, he⟩, _⟩ := st; wpAny_pyIter_enum he h
def iEnumA (K : PySem.W.Frag) (ta : TA) : TI := fun σ H R => ta σ H fun vs H1 => ∃ a xs, vs = [.ref a] ∧ ((SqL K H1 a xs ∧ R (Ite K a) H1) ∨ (SqT K H1 a xs ∧ R (IteT K a) H1))
theorem pi_enumA {X : Cx} {e : Expr} {ta : TA} {p pos tp : Pos} {ts : List Expr} {kk : Nat} (hg : Gl X "enumerate") (hm : X.mg "enumerate" = none) (ha : PA X [e] ta) (hs : starEach [e] X.env = [(false, eval e X.env)] := by rfl) :
    PI X (.Tuple ts kk tp) (.Call (.Name "enumerate" p) [e] [] pos) (iEnumA X.K ta) := by
  refine ⟨fun pins s σ H R I h => ?_⟩
  refine Call_ (ld_blt I hg hm boot_enumerate (PyProof.Rows.callWith_type1 (thn (ha.run pos pins s σ H _ I h) fun us s1 ⟨vs, H1, I1, r1, q1⟩ => ?_) hs rfl))
  obtain ⟨a, xs, ex, q1⟩ := q1
  subst ex
  obtain ⟨u, rfl, ru⟩ := vals1 r1
  cases ru
  have nz : ∀ b ∈ [s1.heap.objs.size + 1, s1.heap.objs.size], s1.heap.objs.size ≤ b := fun b hb => by
    rcases List.mem_cons.mp hb with z | z
    · omega
    · have := List.mem_singleton.mp z; omega
  rcases q1 with ⟨hq, q⟩ | ⟨hq, q⟩
  · obtain ⟨its, rv, p', _⟩ := I1.list hq
    refine call_enumerate_list p'.isList fun h' he hit hsz hk => wpAny_pyIter_enum he ?_
    have I2 : Inv X pins σ H1 { s1 with heap := h' } := I1.kept (t' := s1.toks) hk
    exact ⟨s1.heap.objs.size + 1, [s1.heap.objs.size + 1, s1.heap.objs.size], _, _, H1, rfl, I2, turn_enum a (s1.heap.objs.size + 1) s1.heap.objs.size, ⟨⟨.none, he⟩, hit, Nat.succ_ne_self _⟩, fun b hb => I1.fpOk (nz b hb) (I1.hok.fresh (nz b hb)), q⟩
  · obtain ⟨its, rv, p', _⟩ := I1.tuple hq
    have pT : s1.heap.IsTuple a its.toArray := p'
    have al : a < s1.heap.objs.size := by obtain ⟨o, ho, _⟩ := pT; exact Heap.lt_size ho
    refine enumCall (begins_tuple a its.toArray) pT fun h' he hit hk => wpAny_pyIter_enum he ?_
    have I2 : Inv X pins σ H1 { s1 with heap := h' } := I1.kept (t' := s1.toks) hk
    exact ⟨s1.heap.objs.size + 1, [s1.heap.objs.size + 1, s1.heap.objs.size], _, _, H1, rfl, I2, turn_enumT a (s1.heap.objs.size + 1) s1.heap.objs.size (Nat.succ_ne_self _) (Nat.ne_of_lt al) (Nat.ne_of_gt (Nat.lt_succ_of_lt al)), ⟨⟨.none, he⟩, ⟨_, hit, rfl, rfl⟩⟩, fun b hb => I1.fpOk (nz b hb) (I1.hok.fresh (nz b hb)), q⟩
theorem walk_enumT {K : PySem.W.Frag} {a : Addr} {xs : List V} : Walk (IteT K a) xs.length (fun H => SqT K H a xs) (YPair (fun i => some (.int (i : Nat))) (fun i => xs[i]?)) := by
  refine ⟨fun i _ hi q => ⟨xs, xs[i], q, by simp [hi]⟩, fun _ q => ⟨xs, q, rfl⟩, fun i H v H' _ q y => ?_⟩
  obtain ⟨T, x, h1, h2, h3, h4⟩ := y
  exact ⟨T, .int (i : Nat), x, h1, h2, h3, rfl, h4 xs q⟩
/-- pairs of a place and an element -/
def enumD (ds : List D) : List D := (List.range ds.length).map fun i => .par (.int (i : Nat)) (ds.getD i .non)
theorem enumD_get {ds : List D} {i : Nat} {d : D} (h : ds[i]? = some d) : (enumD ds)[i]? = some (.par (.int (i : Nat)) d) := by
  unfold enumD
  have hl := (List.getElem?_eq_some_iff.mp h).1
  rw [List.getElem?_map, List.getElem?_range hl]
  simp [h]
/-- the pairs that such a walk gives -/
theorem dw_pairs {C : DC} {O : Addr → Prop} {H1 : Hp} {full : Bool} {J : It} {G : Hp → Prop} {items : List D} {xs ys : Nat → Option V} {dx dy : Nat → Option D} (g : GI C H1) (on : OO O H1) (w : Walk J items.length G (YPair xs ys)) (hG : ∀ H, Kept C O full H1 H → G H)
    (h1 : ∀ i x, xs i = some x → ∃ d, dx i = some d ∧ Rp C O H1 d x) (h2 : ∀ i x, ys i = some x → ∃ d, dy i = some d ∧ Rp C O H1 d x) (hi : ∀ i d e, dx i = some d → dy i = some e → items[i]? = some (.par d e)) : DWalk C O full J items H1 := by
  refine ⟨G, _, w, hG, fun i H v H' k gH y => ?_⟩
  obtain ⟨p, x, y', rfl, hn, rfl, ex, ey⟩ := y
  obtain ⟨d, hd, rd⟩ := h1 i x ex
  obtain ⟨e, he, re⟩ := h2 i y' ey
  refine ⟨Ext.new hn, gH.new hn, _, hi i d e hd he, fun O' ho => ?_⟩
  unfold Rp
  exact ⟨p, x, y', rfl, .inl (.inl upd_same), Rp.ext gH (Ext.new hn) (Rp.move g on k.stay ho rd), Rp.ext gH (Ext.new hn) (Rp.move g on k.stay ho re)⟩
def wEnum (t : WA) : WI := fun ρ Q => t ρ fun ds => match ds with
  | [.lst xs] => Q (enumD xs)
  | [.tup xs] => Q (enumD xs)
  | _ => False
theorem enumD_len {ds : List D} : (enumD ds).length = ds.length := by unfold enumD; simp
theorem ji_enum {X : Cx} {B : BX} {e : Expr} {p pos tp : Pos} {ts : List Expr} {kk : Nat} {ta : WA} (hK : X.K = B.C.K) (hg : Gl X "enumerate") (hm : X.mg "enumerate" = none) (ha : PA X [e] (liftA B ta)) (hs : starEach [e] X.env = [(false, eval e X.env)] := by rfl) :
    PI X (.Tuple ts kk tp) (.Call (.Name "enumerate" p) [e] [] pos) (liftI B true (wEnum ta)) :=
  (pi_enumA hg hm ha hs).weak fun σ H R ⟨ρ, α, P, E, hw, post⟩ => ⟨ρ, α, _, E, hw, fun ds vs H1 hd g1 e1 r1 => by
    have fin : ∀ {xs : List D} {us : List V} {O : Addr → Prop}, RpL B.C O H1 xs us → ∀ i x, us[i]? = some x → ∃ d, xs[i]? = some d ∧ Rp B.C O H1 d x := fun r i x h => r.getv h
    have ip : ∀ {xs : List D} (i : Nat) (d f : D), some (D.int (i : Nat)) = some d → xs[i]? = some f → (enumD xs)[i]? = some (.par d f) := fun i d f h1 h2 => by cases h1; exact enumD_get h2
    split at hd
    · rename_i xs
      obtain ⟨v, ev, r⟩ := rl_1c r1
      subst ev
      obtain ⟨a, us, rfl, nO, s, q, rl⟩ := rp_lst.mp r
      refine ⟨a, us, rfl, .inl ⟨SqL.of q, post _ _ _ hd g1 e1 (dw_pairs (dx := fun i => some (.int (i : Nat))) (dy := fun i => xs[i]?) g1 (E.ext g1 e1).on.oo (by rw [enumD_len, ← rl.length]; exact walk_enum) (fun H k => SqL.of (k.stay _ _ q nO s)) (fun i x h => ⟨_, rfl, by cases h; exact rp_int.mpr rfl⟩) (fun i x h => fin rl i x h) ip)⟩⟩
    · rename_i xs
      obtain ⟨v, ev, r⟩ := rl_1c r1
      subst ev
      obtain ⟨a, us, rfl, q, rl⟩ := rp_tup.mp r
      refine ⟨a, us, rfl, .inr ⟨by rw [hK]; exact q.sq, post _ _ _ hd g1 e1 (dw_pairs (dx := fun i => some (.int (i : Nat))) (dy := fun i => xs[i]?) (G := fun H => SqT X.K H a us) g1 (E.ext g1 e1).on.oo (by rw [enumD_len, ← rl.length]; exact walk_enumT) (fun H k => by rw [hK]; exact k.stay.sqT g1 (E.ext g1 e1).on.oo q.sq) (fun i x h => ⟨_, rfl, by cases h; exact rp_int.mpr rfl⟩) (fun i x h => fin rl i x h) ip)⟩⟩
    · exact hd.elim⟩
/-- pairs of elements -/
def zipD (xs ys : List D) : List D := List.zipWith .par xs ys
def wZip (t : WA) : WI := fun ρ Q => t ρ fun ds => match ds with
  | [.lst xs, .lst ys] => Q (zipD xs ys)
  | [.tup xs, .tup ys] => Q (zipD xs ys)
  | _ => False
end DL

set_option Elab.async false
set_option linter.all false
set_option maxRecDepth 100000
set_option maxHeartbeats 4000000
namespace DL
open PySem PySem.Spec PyProof.Rows L2 NdefX LamX

/-! ### a lambda that is handed to a def -/
/-! data that does not hang on what may be changed -/
mutual
def D.solid : D → Bool
  | .non => true
  | .bl _ => true
  | .int _ => true
  | .str _ => true
  | .tup ds => D.solidL ds
  | .fn _ => true
  | .well => true
  | .scr _ => true
  | .par x y => D.solid x && D.solid y
  | .lst _ => false
  | .dik _ _ => false
  | .dit _ _ => false
def D.solidL : List D → Bool
  | [] => true
  | d :: ds => D.solid d && D.solidL ds
end
section
variable {C : DC} {O O' : Addr → Prop} {H : Hp}
mutual
theorem Rp.solid : ∀ {d : D} {v : V}, d.solid = true → Rp C O H d v → Rp C O' H d v
  | .non, _, _, h => by unfold Rp at h ⊢; exact h
  | .bl _, _, _, h => by unfold Rp at h ⊢; exact h
  | .int _, _, _, h => by unfold Rp at h ⊢; exact h
  | .str _, _, _, h => by unfold Rp at h ⊢; exact h
  | .tup _, _, p, h => by unfold Rp at h ⊢; obtain ⟨b, xs, e, s, r⟩ := h; exact ⟨b, xs, e, s, RpL.solid (by unfold D.solid at p; exact p) r⟩
  | .fn _, _, _, h => by unfold Rp at h ⊢; exact h
  | .well, _, _, h => by unfold Rp at h ⊢; exact h
  | .scr _, _, _, h => by unfold Rp at h ⊢; exact h
  | .par _ _, _, p, h => by
    unfold D.solid at p
    rw [Bool.and_eq_true] at p
    unfold Rp at h ⊢; obtain ⟨a, x, y, e, s, r, t⟩ := h; exact ⟨a, x, y, e, s, Rp.solid p.1 r, Rp.solid p.2 t⟩
  | .lst _, _, p, _ => by unfold D.solid at p; cases p
  | .dik _ _, _, p, _ => by unfold D.solid at p; cases p
  | .dit _ _, _, p, _ => by unfold D.solid at p; cases p
theorem RpL.solid : ∀ {ds : List D} {vs : List V}, D.solidL ds = true → RpL C O H ds vs → RpL C O' H ds vs
  | [], _, _, h => by unfold RpL at h ⊢; exact h
  | _ :: _, _, p, h => by
    unfold D.solidL at p
    rw [Bool.and_eq_true] at p
    unfold RpL at h ⊢; obtain ⟨v, vs, e, r, t⟩ := h; exact ⟨v, vs, e, Rp.solid p.1 r, RpL.solid p.2 t⟩
end
end
/-- a later state: what was known of data is so still, what was not tracked is as it was -/
structure Later (C : DC) (fs0 : List Addr) (H0 H : Hp) (h0 h : Heap) : Prop where
  ext : Ext C H0 H
  un : ∃ fs, Un fs [] H0 H h0 h ∧ ∀ b ∈ fs, b ∈ fs0 ∨ h0.get? b = none
theorem Later.keep {C : DC} {fs0 : List Addr} {H0 H : Hp} {h0 h : Heap} (l : Later C fs0 H0 H h0 h) {b : Addr} {o : Obj} (e : h0.get? b = some o) (n : H0 b = none) (nf : b ∉ fs0) : h.get? b = some o := by
  obtain ⟨fs, u, hf⟩ := l.un
  exact u.keep b o e n (fun z => (hf b z).elim nf fun z => by rw [e] at z; cases z) (by simp)
theorem Later.free {C : DC} {fs0 : List Addr} {H0 H : Hp} {h0 h : Heap} (l : Later C fs0 H0 H h0 h) {b : Addr} {o : Obj} (e : h0.get? b = some o) (n : H0 b = none) : H b = none := by
  obtain ⟨fs, u, hf⟩ := l.un
  exact u.free b o e n (by simp)
/-- the promise of a def, the well where it lies -/
def spC (C : DC) (n : Nat) (f : DF) : Sp := fun vs H Q _ => ∃ (S : Addr → Prop) (ds : List D) (P : D → Prop), ds.length = n ∧ GI C H ∧ ON C S H ∧ RpL C S H ds vs ∧ f ds P ∧
  ∀ d v H', P d → GI C H' → Ext C H H' → Rp C S H' d v → Q v H'
/-- the function at f, made at the state H0, h0, keeps its promise at all later states -/
structure CloAt (P : Program) (w : World) (K : PySem.W.Frag) (mg : Str → Option Value) (base : Heap) (C : DC) (k : Nat) (f : Addr) (n : Nat) (df : DF) (fs0 : List Addr) (H0 : Hp) (h0 : Heap) : Prop where
  obj : ∃ oc od fd sl, h0.get? f = some (⟨oc, od, .func fd, sl⟩ : Obj)
  free : H0 f = none
  nofr : f ∉ fs0
  run : ∀ (A : Around) (outer : List Env) (s : Shared) (H : Hp) (us : List Value) (vs : List V) (Q : VK), RoomG k A → Env0 P w K mg base A outer s H → Later C fs0 H0 H h0 s.heap → Vals vs us → spC C n df vs H Q E0 →
    codeAny (model P w) A (.call (.ref f) ⟨us, []⟩) (CR CX0 outer P w H s Q E0) s
theorem Later.trans {C : DC} {fs0 fs1 : List Addr} {H0 H1 H2 : Hp} {h0 h1 h2 : Heap} (a : Later C fs0 H0 H1 h0 h1) (b : Later C fs1 H1 H2 h1 h2) (hf : ∀ x ∈ fs1, x ∈ fs0 ∨ h0.get? x = none) : Later C fs0 H0 H2 h0 h2 := by
  obtain ⟨g1, u1, f1⟩ := a.un
  obtain ⟨g2, u2, f2⟩ := b.un
  refine ⟨a.ext.trans b.ext, g1 ++ g2, (u1.mono (fun x z => List.mem_append_left _ z) fun _ z => z).trans (u2.mono (fun x z => List.mem_append_right _ z) fun _ z => z), fun x z => ?_⟩
  rcases List.mem_append.mp z with z | z
  · exact f1 x z
  · rcases f2 x z with z | z
    · exact hf x z
    · refine .inr ?_
      cases q : h0.get? x with
      | none => rfl
      | some o =>
        obtain ⟨o', e⟩ := u1.there x o q (by simp)
        rw [z] at e; cases e
theorem CloAt.later {P : Program} {w : World} {K : PySem.W.Frag} {mg : Str → Option Value} {base : Heap} {C : DC} {k n : Nat} {f : Addr} {df : DF} {fs0 fs1 : List Addr} {H0 H1 : Hp} {h0 h1 : Heap} (c : CloAt P w K mg base C k f n df fs0 H0 h0) (l : Later C fs0 H0 H1 h0 h1) (hf : ∀ x ∈ fs1, x ∈ fs0 ∨ h0.get? x = none) : CloAt P w K mg base C k f n df fs1 H1 h1 := by
  obtain ⟨oc, od, fd, sl, e⟩ := c.obj
  refine ⟨⟨oc, od, fd, sl, l.keep e c.free c.nofr⟩, l.free e c.free, fun z => ?_, fun A outer s H us vs Q hr e0 l2 r sp => c.run A outer s H us vs Q hr e0 (l.trans l2 hf) r sp⟩
  rcases hf f z with z | z
  · exact c.nofr z
  · rw [e] at z; cases z

/-! ### it is called in the def that got it -/
section
variable {X : Cx} {B : BX} {x : Str} {p pos : Pos} {e : Expr} {es : List Expr} {i k n : Nat} {f : Addr} {df : DF}
/-- the state is later than the running def's entry -/
theorem inv_later {pins : List (Addr × Obj)} {σ : L2.St} {H : Hp} {s : Shared} {C : DC} (hex : X.ex = []) (I : Inv X pins σ H s) (e : Ext C X.H_0 H) : Later C X.fs X.H_0 H X.s_0.heap s.heap :=
  ⟨e, X.fs, by have u := I.base; rw [hex] at u; exact u, fun b z => .inl z⟩
def wHook (i : Nat) (f : Addr) (n : Nat) (df : DF) (t : WA) : WE := fun ρ Q => (match ρ[i]? with
  | some (some (.dat (.fn f'))) => f' = f
  | _ => False) ∧ t ρ fun ds => ds.length = n ∧ df ds Q
theorem je_hook {t : WA} (hex : X.ex = []) (clo : CloAt X.prog X.w X.K X.mg X.base B.C k f n df X.fs X.H_0 X.s_0.heap) (hH : B.H0 = X.H_0) (hr : RoomG k X.A) (hx : Passes CX0 X E0) (hv : PE X (.Name x p) (tVar i)) (ha : PA X (e :: es) (liftA B t))
    (he : starEach (e :: es) X.env = (false, eval e X.env) :: starEach es X.env := by rfl) (hpl : (backTo pos (starEach es X.env)).any (·.1) = false := by rfl) :
    PE X (.Call (.Name x p) (e :: es) [] pos) (liftE B .c (wHook i f n df t)) := by
  refine ⟨fun pins s σ H Q I ⟨ρ, α, P, ok, ⟨hi, hw⟩, post⟩ => ?_⟩
  have hs : σ[i]? = some (some (.ref f)) := by
    split at hi
    · rename_i f' hr
      obtain ⟨v, hv, r⟩ := slot_dat ok hr
      unfold Rp at r
      rw [hv, r, hi]
    · exact hi.elim
  refine wpAny_Call_Name_kw (thn (hv.run pins s σ H (fun v H1 => v = .ref f ∧ H1 = H) I ⟨.ref f, hs, rfl, rfl⟩) fun u s1 ⟨v, H1, I1, r1, q1⟩ => ?_)
  obtain ⟨ev, eH⟩ := q1
  subst ev
  rw [eH] at I1
  obtain rfl : u = Value.ref f := r1
  have fnAt : ∀ {pins : List (Addr × Obj)} {σ : L2.St} {H : Hp} {s : Shared}, Inv X pins σ H s → PySem.W.FnAt f s.heap := fun {pins σ H s} J => by
    obtain ⟨oc, od, fd, sl, e⟩ := clo.obj
    exact ⟨oc, od, fd, sl, J.base.keep f _ e clo.free clo.nofr (by rw [hex]; simp)⟩
  refine PySem.W.callWith_F (first := []) (fnAt I1) (thn (ha.run pos pins s1 σ H _ I1 ⟨ρ, α, _, ok, hw, fun ds vs H2 hd g2 e2 r2 => (⟨ds, hd, g2, e2, r2⟩ : ∃ ds, (ds.length = n ∧ df ds P) ∧ GI B.C H2 ∧ Ext B.C H H2 ∧ RpL B.C (Own B.S0 ρ α) H2 ds vs)⟩) fun us s2 ⟨vs, H2, I2, r, ds, hd, g2, e2, r2⟩ => ⟨fnAt I2, ?_⟩) he hpl
  show wpAny _ _ (call (.ref f) us) _ _ _
  have ok2 := ok.ext g2 e2
  refine wpAny_call (codeAny_mono (clo.run X.A X.stack s2 H2 us vs Q hr I2.env0 (inv_later hex I2 (by rw [← hH]; exact ok2.ext0)) r ⟨_, ds, P, hd.1, g2, ok2.on, r2, hd.2, fun d v H' hp g e r => post d v H' hp g (e2.trans e) r⟩) fun r s' hq => ?_)
  cases r with
  | error e => exact hx pins σ H2 s2 e s' I2 hq
  | ok fl =>
    cases fl with
    | ret u => exact I2.after hq
    | next => exact False.elim hq
    | brk => exact False.elim hq
    | cont => exact False.elim hq
end

/-! ### a def that gets one, as its last argument -/
abbrev DFW := Addr → Nat → DF → DF
structure FnW (P : Program) (w : World) (K : PySem.W.Frag) (mg : Str → Option Value) (base : Heap) (C0 : DC) (k : Nat) (g : Addr) (fd : FuncData) (ps : List Str) (j : Nat) (dw : DFW) : Prop where
  run : ∀ (A : Around) (outer : List Env) (s : Shared) (H : Hp) (args : Args) (us : List Value) (vs : List V) (Q : VK) (aw : Option Addr) (f : Addr) (n : Nat) (df : DF), RoomG k A → Env0 P w K mg base A outer s H → BindsTo s fd args (ps.zip us) → Vals vs us →
    CloAt P w K mg base (C0.at aw) j f n df (frs outer) H s.heap → spC (C0.at aw) ps.length (dw f n df) vs H Q E0 → codeAny (model P w) A (.call (.ref g) args) (CR CX0 outer P w H s Q E0) s
section
variable {P : Program} {w : World} {K : PySem.W.Frag} {mg : Str → Option Value} {base : Heap}
theorem fnW_ok {C0 : DC} {x qual : Str} {st : Stmt} {g : Addr} {fd : FuncData} {N ps : List Str} {k j : Nat} {dw : DFW} (F : Fun K x qual st g fd) (Sc : FnScope N ps (defScope st))
    (hb : ∀ (cdv : Value) (A : Around) (outer : List Env) (s : Shared) (H : Hp) (aw : Option Addr) (S : Addr → Prop) (f : Addr) (n : Nat) (df : DF), RoomG k (A.deeper (envOfC qual (defScope st) s.heap.objs.size g cdv)) → CloAt P w K mg base (C0.at aw) j f n df (frs outer) H s.heap →
      ∃ t : WS, PSs (cxOf CX0 P w K mg base N qual (defScope st) g cdv A outer s H E0).nox (defBody st) (liftS ⟨C0.at aw, S, H⟩ t) ∧ ∀ ds P, ds.length = ps.length → dw f n df ds P → t { nx := fun _ => P .non, rt := P } (startE N.length ds)) :
    FnW P w K mg base C0 (k + 1) g fd ps j dw := by
  obtain ⟨oc, od, kV, doc, pm, an, cdv, ct, osl, rfl, lk, hcd⟩ := F.ex
  refine ⟨fun A outer s H args us vs Q aw f n df hr e0 hbd r clo hsp => ?_⟩
  obtain ⟨S, ds, P, hl, g, on, rr, h, post⟩ := hsp
  have hlen : vs.length = ps.length := by rw [rr.length, hl]
  refine codeAny_mono (R := CR CX0 outer _ w H s Q E0) (LamX.run_ofS (N := N) lk hcd Sc hr.room e0 hbd r hlen fun hr' => ?_) fun r s' h => by
    cases r with
    | ok f => cases f <;> exact h
    | error e => exact False.elim h
  obtain ⟨t, ht, hq⟩ := hb cdv A outer s H aw S f n df ⟨hr', hr.gd⟩ clo
  refine ⟨_, ht.nox, _, _, _, start_ok g on rr, hq ds P hl h, ?_⟩
  exact ⟨fun ρ' α' σ' H' q ok rel => post .non .non H' q ok.gi (fun a o e s => rel.keep a o e start_noOwn s) (rp_non.mpr rfl), fun _ _ _ _ z => z.elim, fun _ _ _ _ z => z.elim, fun d v H' q g' e r => post d v H' q g' e r⟩
end
end DL

set_option Elab.async false
set_option linter.all false
set_option maxRecDepth 100000
set_option maxHeartbeats 4000000
namespace DL
open PySem PySem.Spec PyProof.Rows L2 NdefX LamX

section
variable {X : Cx} {pins : List (Addr × Obj)} {σ : L2.St} {H : Hp} {s : Shared}
/-- the maker's frame does not know the new function's address -/
theorem far (I : Inv X pins σ H s) {f : Addr} (hf : s.heap.objs.size ≤ f) : f ∉ frs X.stack := fun z => by
  rcases List.mem_cons.mp (I.stkSub _ z) with e | e
  · subst e; exact Nat.lt_irrefl _ (Nat.lt_of_lt_of_le I.lt hf)
  · exact I.nofs hf e
/-- the function object that comes of a lambda -/
abbrev lamO (X : Cx) (params : Arguments) (body : Expr) (scope : Scope) (pm : Value) (c' : Addr) (ctv : Value) : Obj :=
  PySem.W.kla_obj "<lambda>" (X.env.qual ++ "<lambda>") params body scope (cloFrom X.env.cells scope.names []) pm c' ctv
theorem gi_table {C : DC} {a c' : Addr} {ps : Array Value} {nm : Nat → Nat → Str} {q : Str} {pos : Pos} (g : GI C H) (hP : H a = some (.tbl ps)) (hm : (a, nm) ∈ C.T) (hu : ∀ p ∈ C.T, p.1 = a → p.2 = nm) (hc : H c' = none) (hq : nm pos.line pos.col = q) :
    Ext C H (upd (upd H a (.tbl (ps ++ #[rawInt pos.line, rawInt pos.col, .ref c']))) c' (CodeO c' q)) ∧ GI C (upd (upd H a (.tbl (ps ++ #[rawInt pos.line, rawInt pos.col, .ref c']))) c' (CodeO c' q)) := by
  have nac : a ≠ c' := fun z => by rw [z, hc] at hP; cases hP
  have at1 : ∀ b, b ≠ a → b ≠ c' → upd (upd H a (.tbl (ps ++ #[rawInt pos.line, rawInt pos.col, .ref c']))) c' (CodeO c' q) b = H b := fun b h1 h2 => by rw [upd_ne h2, upd_ne h1]
  have known : ∀ b o, H b = some o → b ≠ c' := fun b o e z => by rw [z, hc] at e; cases e
  have spa : C.Spc a := .inr ⟨_, hm, rfl⟩
  have kp : ∀ b o, H b = some o → (∀ ts, o ≠ .tbl ts) → upd (upd H a (.tbl (ps ++ #[rawInt pos.line, rawInt pos.col, .ref c']))) c' (CodeO c' q) b = some o := fun b o e nt => by
    rw [at1 b (fun z => by rw [z, hP] at e; cases e; exact nt _ rfl) (known b o e)]; exact e
  refine ⟨fun b o e nS => by rw [at1 b (fun z => nS (by rw [z]; exact spa)) (known b o e)]; exact e, fun p hp => ?_, fun b e => ?_⟩
  · obtain ⟨ts, h1, h2, h3⟩ := g.tabs p hp
    by_cases e : p.1 = a
    · rw [e] at h1 ⊢
      rw [hP] at h1
      cases h1
      have el : (ps ++ #[rawInt pos.line, rawInt pos.col, .ref c']).toList = ps.toList ++ [rawInt pos.line, rawInt pos.col, .ref c'] := by simp
      refine ⟨_, by rw [upd_ne nac, upd_same], by rw [el]; exact PySem.TriplesOk_snoc _ _ _ _ h2, fun p' cv hcv => ?_⟩
      rw [el] at hcv
      rcases among_app2 _ h2 hcv with z | ⟨z, z1, z2⟩
      · obtain ⟨c0, e1, e2⟩ := h3 p' cv z
        exact ⟨c0, e1, kp _ _ e2 codeO_ne⟩
      · refine ⟨c', z, ?_⟩
        rw [hu p hp e, ← z1, ← z2, hq]
        exact upd_same
    · refine ⟨ts, by rw [at1 _ e (known _ _ h1)]; exact h1, h2, fun p' cv hcv => ?_⟩
      obtain ⟨c0, e1, e2⟩ := h3 p' cv hcv
      exact ⟨c0, e1, kp _ _ e2 codeO_ne⟩
  · obtain ⟨i, j, k, e1, e2⟩ := g.well b e
    exact ⟨i, j, k, kp _ _ e1 (fun ts z => by cases z), e2⟩
/-- a lambda is made -/
theorem lam_new {C : DC} {c Pt : Addr} {nm : Nat → Nat → Str} {params : Arguments} {body : Expr} {scope : Scope} {pos : Pos} {E : Value → Shared → Prop} {Q : Value → Shared → Prop} (I : Inv X pins σ H s) (g : GI C H) (TB : TabB X.base X.mg c Pt) (ec : X.env.code = .ref c)
    (hm : (Pt, nm) ∈ C.T) (hq : nm pos.line pos.col = X.env.qual ++ "<lambda>") (hu : ∀ p ∈ C.T, p.1 = Pt → p.2 = nm) (hd : defaultsOf params X.env = ([], [])) (hfr : ∀ y ∈ scope.names, y.2 = .free → ∃ c, X.env.cells.lookup y.1 = some c)
    (k : ∀ (f c' : Addr) (pm ctv : Value) (H1 : Hp) (s1 : Shared), Inv X pins σ H1 s1 → GI C H1 → Ext C H H1 → s1.heap.get? f = some (lamO X params body scope pm c' ctv) → H1 f = none → f ∉ frs X.stack → H1 c' = some (CodeO c' (X.env.qual ++ "<lambda>")) → Q (.ref f) s1) :
    wpAny (model X.prog X.w) X.A (eval (.Lambda params body scope pos) X.env) Q E s := by
  obtain ⟨ps, eP, ht, ha⟩ := g.tabs _ hm
  have eP : H Pt = some (.tbl ps) := eP
  have oP : s.heap.get? Pt = some { cls := .none, data := .fields ps } := I.hok Pt _ eP
  have bP : s.heap.BuiltinsAt X.mg Pt := TB.bm.keeps I.bk
  have gl := I.mod.glob.keeps I.bk
  have hd2 := TB.code.keeps I.bk
  refine PySem.W.kla_eval hd ?_
  cases hc : codeAmong pos ps.toList with
  | some cv =>
    obtain ⟨c', ecv, co⟩ := ha pos cv hc
    subst ecv
    refine PySem.W.kla_makeFunctionHit (c := c) (P := Pt) (ps := ps) (mg := X.mg) (closure_ok hfr) I.ok.glob gl ec hd2 oP ht hc bP fun ctv hp tk kp hz => ?_
    have I1 : Inv X pins σ H { s with heap := hp.push (lamO X params body scope ((X.mg "__name__").getD .none) c' ctv), toks := tk } := I.kept fun b o e => Heap.get?_push_of_some _ (kp b o e)
    exact k hp.objs.size c' _ ctv H _ I1 g Ext.refl (Heap.get?_push_size _ rfl) (I.hok.fresh hz) (far I hz) (by rw [← hq]; exact co)
  | none =>
    refine PySem.W.kla_makeFunction (c := c) (P := Pt) (ps := ps) (mg := X.mg) (closure_ok hfr) I.ok.glob gl ec hd2 oP ht hc TB.gP bP fun c' ctv hp tk kp hge hlt hrec htb => ?_
    obtain ⟨c2, oc, vs, t, ec2, hoc, hdd, hv⟩ := hrec
    cases ec2
    have nC : H c' = none := I.hok.fresh hge
    have hz : s.heap.objs.size ≤ hp.objs.size := Nat.le_trans hge (Nat.le_of_lt hlt)
    obtain ⟨e1, g1⟩ := gi_table (pos := pos) g eP hm hu nC hq
    have I1 := inv_table (t' := tk) (more := #[rawInt pos.line, rawInt pos.col, .ref c']) (q := X.env.qual ++ "<lambda>") (h' := hp.push (lamO X params body scope ((X.mg "__name__").getD .none) c' ctv)) I eP
      (fun b o hb e => Heap.get?_push_of_some _ (kp b o hb e)) (Heap.get?_push_of_some _ htb) hge ⟨oc, vs, t, Heap.get?_push_of_some _ hoc, hdd, hv⟩
    refine k hp.objs.size c' _ ctv _ _ I1 g1 e1 (Heap.get?_push_size _ rfl) ?_ (far I hz) upd_same
    have n1 : hp.objs.size ≠ c' := Nat.ne_of_gt hlt
    have n2 : hp.objs.size ≠ Pt := Nat.ne_of_gt (Nat.lt_of_lt_of_le (Heap.lt_size oP) hz)
    rw [upd_ne n1, upd_ne n2]
    exact I.hok.fresh hz
end

/-! ### its body -/
/-- what the names hold at the start: the parameters, the captured ones -/
def startEF (N : Nat) (ds cs : List D) : Ev := ds.map (fun d => some (.dat d)) ++ (cs.map (fun d => some (.dat d)) ++ List.replicate (N - ds.length - cs.length) none)
theorem startEF_get {N : Nat} {ds cs : List D} {i : Nat} {sl : Slot} (h : (startEF N ds cs)[i]? = some (some sl)) : ∃ d, sl = .dat d ∧ ((i < ds.length ∧ ds[i]? = some d) ∨ (ds.length ≤ i ∧ cs[i - ds.length]? = some d)) := by
  unfold startEF at h
  by_cases h1 : i < ds.length
  · rw [List.getElem?_append_left (by simpa using h1), List.getElem?_map] at h
    cases q : ds[i]? with
    | none => rw [q] at h; cases h
    | some d => rw [q] at h; cases h; exact ⟨d, rfl, .inl ⟨h1, rfl⟩⟩
  · have h1 : ds.length ≤ i := by omega
    rw [List.getElem?_append_right (by simpa using h1), List.length_map] at h
    by_cases h2 : i - ds.length < cs.length
    · rw [List.getElem?_append_left (by simpa using h2), List.getElem?_map] at h
      cases q : cs[i - ds.length]? with
      | none => rw [q] at h; cases h
      | some d => rw [q] at h; cases h; exact ⟨d, rfl, .inr ⟨h1, rfl⟩⟩
    · rw [List.getElem?_append_right (by rw [List.length_map]; omega), List.getElem?_replicate] at h
      split at h <;> cases h
theorem startF_ok {C : DC} {S : Addr → Prop} {H : Hp} {N : List Str} {ds cs : List D} {vs ws : List V} (g : GI C H) (on : ON C S H) (r : RpL C S H ds vs) (rc : RpL C S H cs ws) : EnvOk ⟨C, S, H⟩ (fun _ => 0) (startF N vs (ws.map some)) H (startEF N.length ds cs) := by
  have hO : ∀ a, ¬ OwnS (startEF N.length ds cs) (fun _ => 0) a := fun a ⟨i, d, e, _⟩ => by
    obtain ⟨_, z, _⟩ := startEF_get e
    cases z
  have l1 := r.length
  have l2 := rc.length
  refine ⟨g, ⟨fun a o h _ _ => h, fun a z => absurd z (hO a)⟩, by unfold startF startEF; simp [l1, l2], fun i sl e => ?_, fun i j d e h => ?_, fun a z => ⟨(on a z).1, (on a z).2, hO a⟩⟩
  · obtain ⟨d, rfl, q⟩ := startEF_get e
    unfold startF
    rcases q with ⟨h1, q⟩ | ⟨h1, q⟩
    · obtain ⟨v, hv, rv⟩ := r.get q
      refine ⟨v, ?_, Rp.mono (fun a z => z.elim id fun z => absurd z (hO a)) rv⟩
      rw [List.getElem?_append_left (by rw [List.length_map, l1]; exact h1), List.getElem?_map, hv]; rfl
    · obtain ⟨v, hv, rv⟩ := rc.get q
      refine ⟨v, ?_, Rp.mono (fun a z => z.elim id fun z => absurd z (hO a)) rv⟩
      have h2 : i - ds.length < ws.length := (List.getElem?_eq_some_iff.mp hv).1
      have h3 : i - (vs.map some).length = i - ds.length := by rw [List.length_map, l1]
      rw [List.getElem?_append_right (by rw [List.length_map, l1]; exact h1), h3, List.getElem?_append_left (by simpa using h2), List.getElem?_map, hv]; rfl
  · obtain ⟨_, z, _⟩ := startEF_get h
    cases z
/-- the lambda's words -/
abbrev lamF (q : Str) (params : Arguments) (scope : Scope) (cl : List (Str × Addr)) (c' : Addr) : NF := ⟨"<lambda>", q, params, [], scope, cl, c'⟩
theorem clo_lam {P : Program} {w : World} {K : PySem.W.Frag} {mg : Str → Option Value} {base : Heap} {C : DC} {k : Nat} {f c' : Addr} {q : Str} {params : Arguments} {body : Expr} {scope : Scope} {cl : List (Str × Addr)} {pm ctv : Value} {N ps fr : List Str} {fs0 : List Addr} {H0 : Hp} {h0 : Heap} {cs : List D} {ws : List V} {S0 : Addr → Prop} {tb : WE} {fl : Fl}
    (hf : h0.get? f = some (PySem.W.kla_obj "<lambda>" q params body scope cl pm c' ctv)) (hn : H0 f = none) (nf : f ∉ fs0) (hc : H0 c' = some (CodeO c' q)) (nS : ¬ C.Spc c') (g0 : GI C H0) (Sc : NScope N ps fr scope) (CA : CellsAt cl fr (ws.map some) h0 H0) (nfr : ∀ y c, cl.lookup y = some c → c ∉ fs0)
    (rc : RpL C S0 H0 cs ws) (sol : D.solidL cs = true) (hbind : ∀ us : List Value, us.length = ps.length → bindArgs (PySem.W.kla_fn "<lambda>" q params body scope cl pm (.ref c') ctv) ⟨us, []⟩ = pure (ps.zip us)) (hfl : fl ≠ .t)
    (hbody : ∀ (A : Around) (outer : List Env) (s : Shared) (H : Hp) (S : Addr → Prop), RoomG k (A.deeper (envF (lamF q params scope cl c') f s.heap.objs.size)) → PE (ncx CX0 P w K mg base N (lamF q params scope cl c') f A outer s H E0) body (liftE ⟨C, S, H⟩ fl tb)) :
    CloAt P w K mg base C (k + 1) f ps.length (fun ds Q => tb (startEF N.length ds cs) Q) fs0 H0 h0 := by
  refine ⟨⟨_, _, _, _, hf⟩, hn, nf, fun A outer s H us vs Q hr e0 l r ⟨S, ds, Pd, hl, g, on, rr, h, post⟩ => ?_⟩
  have hlen : vs.length = ps.length := by rw [rr.length, hl]
  have lim : s.heap.NoLimit := e0.mod.nolimit.keeps fun b o e => (e0.bs b o e).1
  have hcH : H c' = some (CodeO c' q) := l.ext _ _ hc nS
  refine PySem.W.kla_callFunE hr.room.depth (l.keep hf hn nf) rfl Sc.co Sc.gen rfl (codeO_at e0.hok hcH) ?_
  rw [hbind us (by rw [← r.length]; exact hlen)]
  refine wpAny_pure (wpAny_newFunctionEnv Sc.nocell (fun ⟨n, _⟩ hy => Sc.par n (List.of_mem_zip hy).1) (fun h₁ hns hsb => ⟨lim.fresh _ hsb, ?_⟩) Sc.kind)
  show codeAny _ _ (.expr body (envF (lamF q params scope cl c') f s.heap.objs.size)) _ _
  have kp : ∀ b o, s.heap.get? b = some o → h₁.get? b = some o := fun b o e => hsb.extBut b o (Nat.ne_of_lt (Heap.lt_size e)) (Heap.get?_push_of_some _ e)
  have CA2 : CellsAt cl fr (ws.map some) s.heap H := by
    have kc : ∀ y c, cl.lookup y = some c → ∀ v, h0.IsCell c v → s.heap.IsCell c v := fun y c e v ⟨o, ho, hd⟩ => ⟨o, l.keep ho (CA.all y c e).1 (nfr y c e), hd⟩
    refine ⟨CA.len, fun y c e => ?_, CA.inj, fun i y e => ?_⟩
    · obtain ⟨n, v, z⟩ := CA.all y c e
      refine ⟨?_, v, kc y c e v z⟩
      obtain ⟨o, ho, _⟩ := z
      exact l.free ho n
    · obtain ⟨c, hc, hv⟩ := CA.has i y e
      exact ⟨c, hc, fun v ev => by obtain ⟨u, ru, z⟩ := hv v ev; exact ⟨u, ru, kc y c hc _ z⟩⟩
  have J : Inv (ncx CX0 P w K mg base N (lamF q params scope cl c') f A outer s H E0) [] (startF N vs (ws.map some)) H { s with heap := h₁, toks := s.toks + (ps.zip us).length } := inv_startN (F := lamF q params scope cl c') Sc hr.room.hd e0 hlen r CA2 hns kp
  have rcH : RpL C S H cs ws := RpL.ext g0 l.ext (RpL.solid sol rc)
  have hb := hbody A outer s H S ⟨hr.room.deeper _, hr.gd⟩
  refine PySem.W.kla_codeExpr (wpAny_mono ((hb.toC hfl).run [] _ _ H Q J ⟨_, _, Pd, startF_ok g on rr rcH, h, fun d v H' hd g' e' r' => post d v H' hd g' e' (Rp.mono (fun a z => .inl z) r'.rc)⟩) (fun v s' hq => ?_) fun e s' hq => hq)
  obtain ⟨w', H', J', rv, q⟩ := hq
  exact ⟨w', H', J'.os, J'.bare, J'.base, J'.hok, rv, q⟩
end DL

set_option Elab.async false
set_option linter.all false
set_option maxRecDepth 100000
set_option maxHeartbeats 4000000
namespace DL
open PySem PySem.Spec PyProof.Rows L2 NdefX LamX

/-- the data that the slots js hold -/
def capD (ρ : Ev) : List Nat → (List D → Prop) → Prop
  | [], k => k []
  | j :: js, k => match ρ[j]? with
    | some (some (.dat d)) => d.solid = true ∧ capD ρ js fun cs => k (d :: cs)
    | _ => False
theorem capD_get {B : BX} {α : Nat → Addr} {σ : L2.St} {H : Hp} {ρ : Ev} (ok : EnvOk B α σ H ρ) : ∀ {js : List Nat} {k : List D → Prop}, capD ρ js k → ∃ cs ws, k cs ∧ D.solidL cs = true ∧ js.map (slotAt σ) = ws.map some ∧ RpL B.C (Own B.S0 ρ α) H cs ws
  | [], k, h => ⟨[], [], h, rfl, rfl, RpL.nil⟩
  | j :: js, k, h => by
    unfold capD at h
    split at h
    · rename_i d hd
      obtain ⟨cs, ws, h1, h2, h3, h4⟩ := capD_get ok h.2
      obtain ⟨v, hv, r⟩ := slot_dat ok hd
      exact ⟨d :: cs, v :: ws, h1, by unfold D.solidL; rw [h.1, h2]; rfl, by rw [List.map_cons, List.map_cons, h3, slotAt_of hv], RpL.cons r h4⟩
    · exact h.elim
/-- the lambda's looks -/
structure LamI (X : Cx) (C : DC) (ps fr N : List Str) (js : List Nat) (params : Arguments) (body : Expr) (scope : Scope) (pos : Pos) : Prop where
  made : ∃ (c Pt : Addr) (nm : Nat → Nat → Str), TabB X.base X.mg c Pt ∧ X.env.code = .ref c ∧ (Pt, nm) ∈ C.T ∧ nm pos.line pos.col = X.env.qual ++ "<lambda>" ∧ ∀ p ∈ C.T, p.1 = Pt → p.2 = nm
  own : ∀ y, X.fn y = true
  de : defaultsOf params X.env = ([], [])
  sc : NScope N ps fr scope
  fk : ∀ y ∈ scope.names, y.2 = .free → X.env.scope.names.lookup y.1 = some .cell ∨ X.env.scope.names.lookup y.1 = some .free
  frn : ∀ y ∈ fr, (y, NameKind.free) ∈ scope.names
  at_ : js.map (fun j => X.N[j]?) = fr.map some
  bind : ∀ (q : Str) (cl : List (Str × Addr)) (pm cv ctv : Value) (us : List Value), us.length = ps.length → bindArgs (PySem.W.kla_fn "<lambda>" q params body scope cl pm cv ctv) ⟨us, []⟩ = pure (ps.zip us)
section
variable {X : Cx} {B : BX} {k : Nat} {ps fr N : List Str} {js : List Nat} {params : Arguments} {body : Expr} {scope : Scope} {lpos : Pos} {tb : WE} {fl : Fl}
/-- what holds of the lambda's body's derivation -/
def LamB (X : Cx) (C : DC) (k : Nat) (N : List Str) (params : Arguments) (body : Expr) (scope : Scope) (fl : Fl) (tb : WE) : Prop :=
  ∀ (f c' : Addr) (A : Around) (outer : List Env) (s : Shared) (H : Hp) (S : Addr → Prop), RoomG k (A.deeper (envF (lamF (X.env.qual ++ "<lambda>") params scope (cloFrom X.env.cells scope.names []) c') f s.heap.objs.size)) →
    PE (ncx CX0 X.prog X.w X.K X.mg X.base N (lamF (X.env.qual ++ "<lambda>") params scope (cloFrom X.env.cells scope.names []) c') f A outer s H E0) body (liftE ⟨C, S, H⟩ fl tb)
theorem lam_args {pins : List (Addr × Obj)} {σ : L2.St} {H : Hp} {s : Shared} {ρ : Ev} {α : Nat → Addr} {cs : List D} {ws : List V} {pos : Pos} (I : Inv X pins σ H s) (ok : EnvOk B α σ H ρ) (L : LamI X B.C ps fr N js params body scope lpos) (hfl : fl ≠ .t) (hb : LamB X B.C k N params body scope fl tb)
    (sol : D.solidL cs = true) (hw : js.map (slotAt σ) = ws.map some) (rc : RpL B.C (Own B.S0 ρ α) H cs ws) {E : Value → Shared → Prop} :
    wpAny (model X.prog X.w) X.A (spliced (backTo pos [(false, eval (.Lambda params body scope lpos) X.env)])) (fun us s2 => ∃ f H2, us = [.ref f] ∧ Inv X pins σ H2 s2 ∧ GI B.C H2 ∧ Ext B.C H H2 ∧ CloAt X.prog X.w X.K X.mg X.base B.C (k + 1) f ps.length (fun ds Q => tb (startEF N.length ds cs) Q) (frs X.stack) H2 s2.heap) E s := by
  obtain ⟨c, Pt, nm, TB, ec, hm, hq, hu⟩ := L.made
  have hfr : ∀ y ∈ scope.names, y.2 = .free → ∃ c, X.env.cells.lookup y.1 = some c := fun y hy e => (L.fk y hy e).elim (fun z => I.ok.has _ (.inl z)) fun z => I.ok.has _ (.inr z)
  show wpAny _ _ (spliced ((false, eval (.Lambda params body scope lpos) X.env) :: [])) _ _ s
  refine Calls.spliced_cons (lam_new I ok.gi TB ec hm hq hu L.de hfr fun f c' pm ctv H2 s2 I2 g2 e2 hf hn nf hc => ?_)
  refine Calls.spliced_nil ⟨f, H2, rfl, I2, g2, e2, ?_⟩
  have Cp : Caps X (cloFrom X.env.cells scope.names []) fr js := Caps.made I2.ok L.fk L.frn L.at_
  have CA := cells_of I2 Cp
  rw [hw] at CA
  have nfr : ∀ y c, (cloFrom X.env.cells scope.names []).lookup y = some c → c ∉ frs X.stack := fun y c e z => by
    have e2 := Cp.sub y c e
    obtain ⟨v, o, ho, hd⟩ := I2.cell y c e2
    rcases List.mem_cons.mp (I2.stkSub _ z) with q | q
    · rw [q] at ho
      obtain ⟨m, ⟨o2, es, ep, h1, h2, _⟩, _⟩ := I2.loc
      rw [h1] at ho; cases ho
      rw [h2] at hd; cases hd
    · obtain ⟨_, o3, h3, _⟩ := I2.ok.funs.mem q
      exact absurd (Nat.lt_of_lt_of_le (Heap.lt_size h3) (I2.ok.cab y c (L.own y) e2)) (Nat.lt_irrefl _)
  exact clo_lam hf hn nf hc (g2.notSpc hc (fun _ z => by unfold CodeO at z; cases z) fun _ z => by unfold CodeO at z; cases z) g2 L.sc CA nfr (RpL.ext ok.gi e2 rc) sol (fun us hl => L.bind _ _ _ _ _ us hl) hfl (fun A outer s H S hr => hb f c' A outer s H S hr)
/-- g(.., lambda): the call, all but the arguments -/
theorem call_w {pins : List (Addr × Obj)} {σ : L2.St} {H H2 : Hp} {s2 : Shared} {ρ : Ev} {α : Nat → Addr} {g f : Addr} {fd : FuncData} {qs : List Str} {j : Nat} {dw : DFW} {df : DF} {C0 : DC} {ds : List D} {vs : List V} {us : List Value} {P : D → Prop} {R : VK} {n : Nat} (G : FnW X.prog X.w X.K X.mg X.base C0 j g fd qs k dw) (hr : RoomG j X.A) (hb : L2.Binds X.K fd qs []) (hx : Passes CX0 X E0) (hB : B.C = C0.at B.C.aw)
    (ok : EnvOk B α σ H ρ) (I2 : Inv X pins σ H2 s2) (g2 : GI B.C H2) (e2 : Ext B.C H H2) (clo : CloAt X.prog X.w X.K X.mg X.base B.C k f n df (frs X.stack) H2 s2.heap) (r : Vals vs us) (rr : RpL B.C (Own B.S0 ρ α) H2 ds vs) (hl : ds.length = qs.length) (h : dw f n df ds P)
    (post : ∀ d v H', P d → GI B.C H' → Ext B.C H H' → Post B.C (Own B.S0 ρ α) H H' .c d v → R v H') : wpAny (model X.prog X.w) X.A (call (.ref g) us) (EP X pins σ R) X.xe s2 := by
  have hlu : (us ++ []).length = qs.length := by rw [List.append_nil, ← r.length, rr.length, hl]
  have hb' := hb s2 us I2.kIn hlu
  rw [List.append_nil] at hb'
  have on2 := (ok.ext g2 e2).on
  have hsp : spC (C0.at B.C.aw) qs.length (dw f n df) vs H2 R E0 := by
    rw [← hB]
    exact ⟨_, ds, P, hl, g2, on2, rr, h, fun d v H' hd g3 e3 r3 => post d v H' hd g3 (e2.trans e3) r3⟩
  have clo2 := clo
  rw [hB] at clo2
  refine wpAny_call (codeAny_mono (G.run X.A X.stack s2 H2 ⟨us, []⟩ us vs R B.C.aw f n df hr I2.env0 hb' r clo2 hsp) fun r s' hq => ?_)
  cases r with
  | error e => exact hx pins σ H2 s2 e s' I2 hq
  | ok fl =>
    cases fl with
    | ret u => exact I2.after hq
    | next => exact False.elim hq
    | brk => exact False.elim hq
    | cont => exact False.elim hq
/-- arguments of which the last one is a lambda -/
abbrev WAL := Ev → (List D → List D → Prop) → Prop
structure PAL (X : Cx) (B : BX) (k np nN : Nat) (tb : WE) (es : List Expr) (t : WAL) : Prop where
  run : ∀ (pos : Pos) (pins : List (Addr × Obj)) (s : Shared) (σ : L2.St) (H : Hp) (ρ : Ev) (α : Nat → Addr) (P : List D → List D → Prop), Inv X pins σ H s → EnvOk B α σ H ρ → t ρ P →
    wpAny (model X.prog X.w) X.A (spliced (backTo pos (starEach es X.env))) (fun us s2 => ∃ vs ds cs f H2, Inv X pins σ H2 s2 ∧ GI B.C H2 ∧ Ext B.C H H2 ∧ RpL B.C (Own B.S0 ρ α) H2 ds vs ∧ Vals (vs ++ [.ref f]) us ∧
      CloAt X.prog X.w X.K X.mg X.base B.C (k + 1) f np (fun as Q => tb (startEF nN as cs) Q) (frs X.stack) H2 s2.heap ∧ P ds cs) X.xe s
def wPalEnd (js : List Nat) : WAL := fun ρ Q => capD ρ js fun cs => Q [] cs
def wPalCons (t : WE) (u : WAL) : WAL := fun ρ Q => t ρ fun d => u ρ fun ds cs => Q (d :: ds) cs
theorem pal_end (L : LamI X B.C ps fr N js params body scope lpos) (hlb : LamB X B.C k N params body scope fl tb) (hfl : fl ≠ .t := by intro z; cases z) (hs : starEach [.Lambda params body scope lpos] X.env = [(false, eval (.Lambda params body scope lpos) X.env)] := by rfl) :
    PAL X B k ps.length N.length tb [.Lambda params body scope lpos] (wPalEnd js) := by
  refine ⟨fun pos pins s σ H ρ α P I ok hw => ?_⟩
  obtain ⟨cs, ws, hp, sol, hj, rc⟩ := capD_get ok hw
  rw [hs]
  refine wpAny_mono (lam_args I ok L hfl hlb sol hj rc) (fun us s2 ⟨f, H2, ev, I2, g2, e2, clo⟩ => ?_) fun _ _ q => q
  subst ev
  exact ⟨[], [], cs, f, H2, I2, g2, e2, RpL.nil, .cons (show L2.RelV (.ref f) (.ref f) from rfl) .nil, clo, hp⟩
theorem pal_cons {e : Expr} {es : List Expr} {t : WE} {u : WAL} {f1 : Fl} {np nN : Nat} (h : PE X e (liftE B f1 t)) (k2 : PAL X B k np nN tb es u) (hf : f1 ≠ .t := by intro z; cases z) (hs : starEach (e :: es) X.env = (false, eval e X.env) :: starEach es X.env := by rfl) :
    PAL X B k np nN tb (e :: es) (wPalCons t u) := by
  refine ⟨fun pos pins s σ H ρ α P I ok hw => ?_⟩
  rw [hs]
  show wpAny _ _ (spliced ((false, eval e X.env) :: backTo pos (starEach es X.env))) _ _ s
  refine Calls.spliced_cons (thn ((h.toC hf).run pins s σ H (fun v H1 => ∃ d, (u ρ fun ds cs => P (d :: ds) cs) ∧ GI B.C H1 ∧ Ext B.C H H1 ∧ Rp B.C (Own B.S0 ρ α) H1 d v) I ⟨ρ, α, _, ok, hw, fun d v H1 hd g1 e1 r1 => ⟨d, hd, g1, e1, r1.rc⟩⟩) fun v s1 ⟨x, H1, I1, rx, d, hd, g1, e1, r1⟩ => ?_)
  refine wpAny_mono (k2.run pos pins s1 σ H1 ρ α _ I1 (ok.ext g1 e1) hd) (fun us s2 ⟨vs, ds, cs, f, H2, I2, g2, e2, r2, rv, clo, hp⟩ => ?_) fun _ _ q => q
  exact ⟨x :: vs, d :: ds, cs, f, H2, I2, g2, e1.trans e2, RpL.cons (Rp.ext g1 e2 r1) r2, .cons rx rv, clo, hp⟩
def wLamW (m np nN : Nat) (dw : DFW) (tb : WE) (t : WAL) : WE := fun ρ Q => t ρ fun ds cs => ds.length + 1 = m ∧ ∀ f, dw f np (fun as Q => tb (startEF nN as cs) Q) (ds ++ [.fn f]) Q
theorem je_lamW {x : Str} {g : Addr} {fd : FuncData} {qs : List Str} {j np nN : Nat} {dw : DFW} {C0 : DC} {p pos : Pos} {e : Expr} {es : List Expr} {t : WAL} (G : FnW X.prog X.w X.K X.mg X.base C0 j g fd qs (k + 1) dw) (hr : RoomG j X.A) (hg : Gl X x) (hm : X.mg x = some (.ref g)) (hk : PySem.W.keepIn X.K (.ref g) = true) (hb : L2.Binds X.K fd qs [])
    (ha : PAL X B k np nN tb (e :: es) t) (hB : B.C = C0.at B.C.aw := by rfl) (hx : Passes CX0 X E0 := by exact pass0)
    (hdb : (x == ("__debug__" : Str)) = false := by decide) (he : starEach (e :: es) X.env = (false, eval e X.env) :: starEach es X.env := by rfl) (hpl : (backTo pos (starEach es X.env)).any (·.1) = false := by rfl) :
    PE X (.Call (.Name x p) (e :: es) [] pos) (liftE B .c (wLamW qs.length np nN dw tb t)) := by
  refine ⟨fun pins s σ H R I ⟨ρ, α, P, ok, hw, post⟩ => ?_⟩
  refine wpAny_Call_Name_kw (ld_glob I hg hm ?_ hdb)
  refine PySem.W.callWith_K (h₀ := X.base) I.ok.mod.kin hk (wpAny_mono (ha.run pos pins s σ H ρ α _ I ok hw) (fun us s2 ⟨vs, ds, cs, f, H2, I2, g2, e2, r2, rv, clo, hl, hd⟩ => ⟨I2.kIn, ?_⟩) fun _ _ q => q) he hpl
  have hfn : Rp B.C (Own B.S0 ρ α) H2 (.fn f) (.ref f) := by unfold Rp; rfl
  exact call_w G hr hb hx hB ok I2 g2 e2 clo rv (r2.app (RpL.cons hfn RpL.nil)) (by rw [List.length_append]; exact hl) (hd f) post
end
/-! ### a def hands on what it got -/
section
variable {X : Cx} {B : BX}
def wCallW (m : Nat) (f : Addr) (n : Nat) (df : DF) (dw : DFW) (t : WA) : WE := fun ρ Q => t ρ fun ds => ds.length = m ∧ dw f n df ds Q
theorem je_callW {x : Str} {g f : Addr} {fd : FuncData} {qs : List Str} {j k n : Nat} {df : DF} {dw : DFW} {C0 : DC} {p pos : Pos} {e : Expr} {es : List Expr} {t : WA} (G : FnW X.prog X.w X.K X.mg X.base C0 j g fd qs k dw) (hr : RoomG j X.A) (hg : Gl X x) (hm : X.mg x = some (.ref g)) (hk : PySem.W.keepIn X.K (.ref g) = true) (hb : L2.Binds X.K fd qs [])
    (clo : CloAt X.prog X.w X.K X.mg X.base B.C k f n df X.fs X.H_0 X.s_0.heap) (hex : X.ex = []) (hst : X.env.frame = some X.env.locals) (hH : B.H0 = X.H_0) (ha : PA X (e :: es) (liftA B t)) (hB : B.C = C0.at B.C.aw := by rfl) (hx : Passes CX0 X E0 := by exact pass0)
    (hdb : (x == ("__debug__" : Str)) = false := by decide) (he : starEach (e :: es) X.env = (false, eval e X.env) :: starEach es X.env := by rfl) (hpl : (backTo pos (starEach es X.env)).any (·.1) = false := by rfl) :
    PE X (.Call (.Name x p) (e :: es) [] pos) (liftE B .c (wCallW qs.length f n df dw t)) := by
  refine ⟨fun pins s σ H R I ⟨ρ, α, P, ok, hw, post⟩ => ?_⟩
  refine wpAny_Call_Name_kw (ld_glob I hg hm ?_ hdb)
  refine PySem.W.callWith_K (h₀ := X.base) I.ok.mod.kin hk (thn (ha.run pos pins s σ H (fun vs H1 => ∃ ds, (ds.length = qs.length ∧ dw f n df ds P) ∧ GI B.C H1 ∧ Ext B.C H H1 ∧ RpL B.C (Own B.S0 ρ α) H1 ds vs) I ⟨ρ, α, _, ok, hw, fun ds vs H1 hd g1 e1 r1 => ⟨ds, hd, g1, e1, r1⟩⟩) fun us s2 ⟨vs, H2, I2, rv, ds, hd, g2, e2, r2⟩ => ⟨I2.kIn, ?_⟩) he hpl
  have ok2 := ok.ext g2 e2
  have lt : Later B.C X.fs X.H_0 H2 X.s_0.heap s2.heap := inv_later hex I2 (by rw [← hH]; exact ok2.ext0)
  have clo2 : CloAt X.prog X.w X.K X.mg X.base B.C k f n df (frs X.stack) H2 s2.heap := clo.later lt fun b z => by
    rcases List.mem_cons.mp (I2.stkSub b z) with q | q
    · refine .inr ?_
      cases h : X.s_0.heap.get? b with
      | none => rfl
      | some o => rw [q] at h; exact absurd (Nat.lt_of_lt_of_le (Heap.lt_size h) I2.ok.above) (Nat.lt_irrefl _)
    · exact .inl q
  exact call_w G hr hb hx hB ok I2 g2 e2 clo2 rv r2 hd.1 hd.2 post
end
end DL

set_option Elab.async false
set_option linter.all false
set_option maxRecDepth 100000
set_option maxHeartbeats 4000000
namespace DL
open PySem PySem.Spec PyProof.Rows L2 NdefX LamX

/-! ### a def, walked by hand -/
theorem fun_of {K : PySem.W.Frag} {x qual : Str} {st : Stmt} {f : Addr} {fd : FuncData} {kws : List (Str × V)} (F : FunD K x qual (defArgs st) (defBody st) (defScope st) [] kws f fd) : Fun K x qual st f fd := by
  obtain ⟨oc, od, dV, kV, doc, pm, an, cdv, ct, osl, rfl, lk, hcd, hD, _⟩ := F.ex
  rcases hD with ⟨_, rfl⟩ | ⟨e, _⟩
  · exact ⟨⟨oc, od, kV, doc, pm, an, cdv, ct, osl, rfl, lk, hcd⟩, F.kp⟩
  · exact absurd rfl e
section
variable {P : Program} {w : World} {K : PySem.W.Frag} {mg : Str → Option Value} {base : Heap}
theorem fn_raw {C0 : DC} {x qual : Str} {st : Stmt} {f : Addr} {fd : FuncData} {N ps : List Str} {k n : Nat} {df : DF} (F : Fun K x qual st f fd) (S : FnScope N ps (defScope st)) (hn : ps.length = n)
    (hb : ∀ (cdv : Value) (A : Around) (outer : List Env) (s : Shared) (H : Hp) (vs : List V) (Q : VK), RoomG k (A.deeper (envOfC qual (defScope st) s.heap.objs.size f cdv)) → spD C0 n df vs H Q E0 →
      ∃ t : TS, PSs (cxOf CX0 P w K mg base N qual (defScope st) f cdv A outer s H E0).nox (defBody st) t ∧ t { nx := fun _ H' => Q .non H', rt := Q } (L2.start N vs) H) :
    FnG P w K mg base CX0 (k + 1) f fd ps (spD C0 n df) := by
  obtain ⟨oc, od, kV, doc, pm, an, cdv, ct, osl, rfl, lk, hcd⟩ := F.ex
  have hlen : ∀ vs H Q E, spD C0 n df vs H Q E → vs.length = ps.length := fun vs H Q E h => by
    obtain ⟨aw, S, ds, P, hl, _, _, r, _⟩ := h
    rw [r.length, hl, hn]
  refine ⟨hlen, fun A outer s H args us vs Q E hr e0 hbd r hsp => ?_⟩
  refine codeAny_mono (R := CR CX0 outer _ w H s Q E0) (LamX.run_ofS (N := N) lk hcd S hr.room e0 hbd r (hlen _ _ _ _ hsp) fun hr' => ?_) fun r s' h => by
    cases r with
    | ok f => cases f <;> exact h
    | error e => exact False.elim h
  obtain ⟨t, ht, hq⟩ := hb cdv A outer s H vs Q ⟨hr', hr.gd⟩ hsp
  exact ⟨t, ht.nox, hq⟩
end

/-! ### the end: the law's own call -/
theorem law_end {P : Program} {w : World} {K : PySem.W.Frag} {mg mb : Str → Option Value} {k : Nat} {fa a : Addr} {cs : List (Addr × Addr)} {fd : FuncData} {x : Str} {sp : Sp} {s1 : Shared} {H : Hp} {xs : List V}
    (KX : K.In s1.heap) (gl : s1.heap.Ns mainGlobals mg) (bl : s1.heap.Ns builtinsNs mb) (bb : ∀ x : Str, x ≠ "__name__" → mb x = bootBuiltins x) (lim : s1.heap.NoLimit) (ge : s1.gens = #[])
    (tE : ∀ p ∈ cs, s1.heap.get? p.2 = some { cls := .none, data := .fields #[] }) (tK : ∀ p ∈ cs, K.lookup p.2 = none) (tC : ∀ p ∈ cs, PySem.W.CodeHd s1.heap p.1 p.2)
    (bm : ∃ (m : Addr) (o : Obj), mg "__builtins__" = some (.ref m) ∧ m ≠ builtinsNs ∧ s1.heap.get? m = some o ∧ o.cls = .type "module" ∧ o.dict = some builtinsNs ∧ o.data = .plain)
    (hr : RoomG k callerA) (F : ∀ base : Heap, K.In base → base.Ns mainGlobals mg → (∀ p ∈ cs, TabB base mg p.1 p.2) → FnG P w K mg base CX0 k fa fd [x] sp) (bd : ∀ (s : Shared) (u : Value), BindsTo s fd ⟨[u], []⟩ [(x, u)])
    (hT : ∀ p ∈ cs, H p.2 = some (.tbl #[])) (hL : ∀ b u, H b = some u → (∃ p ∈ cs, b = p.2) ∨ (K.lookup b = none ∧ ∃ o its n, s1.heap.get? b = some o ∧ o.data = .seq its n ∧ u = .frz o (.lst xs))) (hok : HOk P w H s1.heap)
    (hsp : sp [.ref a] H (fun v _ => v = .bl true) E0) :
    codeAny (model P w) callerA (.call (.ref fa) ⟨[.ref a], []⟩) (fun r s' => r = .ok (.ret (.bool true)) ∧ OldK s1.heap s'.heap ∧ s'.os = s1.os ∧ AllBare s'.gens) s1 := by
  -- what is neither a sequence nor an empty table is not tracked
  have free : ∀ {b : Addr} {o : Obj}, s1.heap.get? b = some o → (∀ its n, o.data ≠ .seq its n) → o.data ≠ .fields #[] → H b = none := fun {b o} e n1 n2 => by
    cases q : H b with
    | none => rfl
    | some u =>
      exfalso
      rcases hL b u q with ⟨p, hp, rfl⟩ | ⟨_, o2, its, n, e2, d2, _⟩
      · rw [tE p hp] at e; cases e; exact n2 rfl
      · rw [e] at e2; cases e2; exact n1 _ _ d2
  have inB : ∀ {b : Addr} {o : Obj}, s1.heap.get? b = some o → H b = none → (hidT s1.heap H).get? b = some o := fun e n => hidT_get e n
  have nsB : ∀ {b : Addr} {m : Str → Option Value}, s1.heap.Ns b m → (hidT s1.heap H).Ns b m := fun {b m} ⟨o, es, ep, e, d, r⟩ =>
    ⟨o, es, ep, inB e (free e (fun _ _ z => by rw [d] at z; cases z) fun z => by rw [d] at z; cases z), d, r⟩
  have KB : K.In (hidT s1.heap H) := fun b o e => by
    refine inB (KX b o e) ?_
    cases q : H b with
    | none => rfl
    | some u =>
      exfalso
      rcases hL b u q with ⟨p, hp, rfl⟩ | ⟨z, _⟩
      · rw [tK p hp] at e; cases e
      · rw [z] at e; cases e
  have MB : L2.Mod K mg (hidT s1.heap H) := by
    obtain ⟨mc, c1, c2⟩ := lim
    exact ⟨KB, nsB gl, ⟨mb, nsB bl, bb⟩, ⟨mc, nsB c1, c2⟩⟩
  have TB : ∀ p ∈ cs, TabB (hidT s1.heap H) mg p.1 p.2 := fun p hp => by
    have ht := tE p hp
    refine ⟨?_, ?_, fun z => ?_⟩
    · obtain ⟨o, us, fi, tf, fl, tg, inF, tx, tt, c1, c2, c3, c4, rest⟩ := tC p hp
      refine ⟨o, us, fi, tf, fl, tg, inF, tx, tt, inB c1 (free c1 (fun _ _ z => by rw [c3] at z; cases z) fun z => ?_), c2, c3, c4, rest⟩
      rw [c3] at z; cases z; simp at c4
    · obtain ⟨m, o, b1, b2, b3, b4, b5, b6⟩ := bm
      refine ⟨m, o, b1, b2, fun z => ?_, fun z => ?_, inB b3 (free b3 (fun _ _ z => by rw [b6] at z; cases z) fun z => by rw [b6] at z; cases z), b4, b5, b6⟩
      · obtain ⟨_, _, _, g1, g2, _⟩ := gl
        subst z; rw [g1] at b3; cases b3; rw [g2] at b6; cases b6
      · subst z; rw [ht] at b3; cases b3; cases b6
    · obtain ⟨_, _, _, g1, g2, _⟩ := gl
      rw [z, ht] at g1; cases g1; cases g2
  have E : Env0 P w K mg (hidT s1.heap H) callerA [] s1 H := ⟨rfl, MB, fun b o e => of_hidT e, Nat.le_of_eq (hidT_size _ _), trivial, fun b z => absurd (show b ∈ ([] : List Addr) from z) (by simp), hok, .of_eq ge⟩
  refine codeAny_mono ((F _ KB (nsB gl) TB).run callerA [] s1 H ⟨[.ref a], []⟩ [.ref a] [.ref a] _ _ hr E (bd s1 (.ref a)) (.cons rfl .nil) hsp) fun r s' hq => ?_
  match r, hq with
  | .error _, z => exact False.elim z
  | .ok .next, z => exact False.elim z
  | .ok .brk, z => exact False.elim z
  | .ok .cont, z => exact False.elim z
  | .ok (.ret u), ⟨v, H', os, ba, un, ok2, rv, ev⟩ =>
    have ev : v = .bl true := ev
    subst ev
    obtain rfl : u = Value.bool true := rv
    have stays : ∀ b o, (∀ p ∈ cs, b ≠ p.2) → s1.heap.get? b = some o → s'.heap.get? b = some o := fun b o nb e => by
      cases q : H b with
      | none => exact un.keep b o e q (fun z => absurd (show b ∈ ([] : List Addr) from z) (by simp)) (by simp)
      | some u =>
        rcases hL b u q with ⟨p, hp, z⟩ | ⟨_, o2, its, n, e2, d2, rfl⟩
        · exact absurd z (nb p hp)
        · rw [e] at e2; cases e2
          exact (ok2 b _ (un.frzs b o _ q)).1
    have tab : ∀ p ∈ cs, ∃ more : Array Value, s'.heap.get? p.2 = some { cls := .none, data := .fields more } := fun p hp => by
      obtain ⟨more, z⟩ := un.tbls p.2 #[] (hT p hp)
      exact ⟨_, ok2 p.2 _ z⟩
    refine ⟨rfl, ⟨fun b o e => ?_, fun b o e => ?_⟩, os, ba⟩
    · by_cases hb : ∃ p ∈ cs, b = p.2
      · obtain ⟨p, hp, rfl⟩ := hb
        obtain ⟨more, hm⟩ := tab p hp
        rw [tE p hp] at e
        cases e
        exact .inr (.inl ⟨((tC p hp).tab (tE p hp)).isCodeTable, rfl, #[], more, rfl, by simpa using hm⟩)
      · exact .inl (stays b o (fun p hp z => hb ⟨p, hp, z⟩) e)
    · by_cases hb : ∃ p ∈ cs, b = p.2
      · obtain ⟨p, hp, rfl⟩ := hb
        obtain ⟨more, hm⟩ := tab p hp
        exact ⟨_, hm⟩
      · exact ⟨o, stays b o (fun p hp z => hb ⟨p, hp, z⟩) e⟩
theorem FnG.mono {P : Program} {w : World} {K : PySem.W.Frag} {mg : Str → Option Value} {base : Heap} {CX : CXT} {j k : Nat} {f : Addr} {fd : FuncData} {ps : List Str} {sp : Sp} (F : FnG P w K mg base CX j f fd ps sp) (h : j ≤ k) : FnG P w K mg base CX k f fd ps sp :=
  ⟨F.len, fun A outer s H args us vs Q E hr => F.run A outer s H args us vs Q E (hr.mono h)⟩
theorem FnG.imp {P : Program} {w : World} {K : PySem.W.Frag} {mg : Str → Option Value} {base : Heap} {CX : CXT} {k n : Nat} {f : Addr} {fd : FuncData} {ps : List Str} {C0 : DC} {d1 d2 : DF} (F : FnG P w K mg base CX k f fd ps (spD C0 n d1)) (h : ∀ ds P, ds.length = n → d2 ds P → d1 ds P) : FnG P w K mg base CX k f fd ps (spD C0 n d2) :=
  ⟨fun vs H Q E ⟨aw, S, ds, P, a, b, c, d, e, f⟩ => F.len vs H Q E ⟨aw, S, ds, P, a, b, c, d, h ds P a e, f⟩, fun A outer s H args us vs Q E hr e0 hb r ⟨aw, S, ds, P, a, b, c, d, e, f⟩ => F.run A outer s H args us vs Q E hr e0 hb r ⟨aw, S, ds, P, a, b, c, d, h ds P a e, f⟩⟩
/-- the heap in which the law's call begins: the script, the tables -/
def H0of (cs : List (Addr × Addr)) (a : Addr) (u : Option HO) : Hp := fun b => if b ∈ cs.map (·.2) then some (.tbl #[]) else if b = a then u else none
theorem law_walk {l : PySem.W.OpenLaw} {n k : Nat} {q : Program} {loose : List Str} {XP : (Str → Option Value) → Heap → Prop} {YP : World → Heap → Prop} {d : DefRec} {x : Str}
    (hn : l.most = some n) (hn2 : n ≤ sizeLine) (hdf : d.params.defaults = []) (hr : RoomG k callerA)
    (F : ∀ (w : World) (mg : Str → Option Value) (fa : Addr) (h : Heap), YP w h → h.Ns mainGlobals mg → mg d.name = some (.ref fa) →
      ∃ (K : PySem.W.Frag) (C0 : DC) (fd : FuncData) (cs : List (Addr × Addr)) (df : DF), K.In h ∧ C0.K = K ∧ (∀ t ∈ C0.T, ∃ p ∈ cs, t.1 = p.2) ∧ (∀ p ∈ cs, h.get? p.2 = some { cls := .none, data := .fields #[] }) ∧ (∀ p ∈ cs, K.lookup p.2 = none) ∧ (∀ p ∈ cs, PySem.W.CodeHd h p.1 p.2) ∧
        (∀ (s : Shared) (u : Value), BindsTo s fd ⟨[u], []⟩ [(x, u)]) ∧ (∀ ns : List Int, ns.length ≤ n → (∀ z ∈ ns, Builtin.Int.intBits z ≤ 1048576) → df [.scr ns] fun r => r = .bl true) ∧
        ∀ base : Heap, K.In base → base.Ns mainGlobals mg → (∀ p ∈ cs, TabB base mg p.1 p.2) → FnG l.prog w K mg base CX0 k fa fd [x] (spC (C0.at none) 1 df)) :
    PySem.W.WalkO q loose XP YP l.row.toRowW d [] (fun f vs => PySem.call f vs) := by
  refine Att.attach_callB hn hdf fun w s₀ s1 mg mb fa o pm cd doc a vs ns G Y ho hd hcd hmg ha hi hlen hbits hge => ?_
  obtain ⟨K, C0, fd, cs, df, KX, eK, hT, tE, tK, tC, bd, hsp, hF⟩ := F w mg fa _ Y G.T.g hmg
  have rv := vals_ints hi
  have aT : a ∉ cs.map (·.2) := fun z => by
    obtain ⟨p, hp, e⟩ := List.mem_map.mp z
    have q := tE p hp
    rw [e, ha] at q
    cases q
  have inT : ∀ b, b ∈ cs.map (·.2) → ∃ p ∈ cs, b = p.2 := fun b z => by
    obtain ⟨p, hp, e⟩ := List.mem_map.mp z
    exact ⟨p, hp, e.symm⟩
  have atT : ∀ (u : Option HO) p, p ∈ cs → H0of cs a u p.2 = some (.tbl #[]) := fun u p hp => if_pos (List.mem_map.mpr ⟨p, hp, rfl⟩)
  have go : ∀ u : Option HO, (u = none ∧ K.lookup a ≠ none ∨ K.lookup a = none ∧ u = some (.frz { cls := .type "list", data := .seq vs.toArray } (.lst (ns.map V.int)))) → ScrR K (H0of cs a u) a (ns.map V.int) →
      codeAny (model l.prog w) callerA (.call (.ref fa) ⟨[.ref a], []⟩) (fun r s' => r = .ok (.ret (.bool true)) ∧ OldK s1.heap s'.heap ∧ s'.os = s1.os ∧ AllBare s'.gens) s1 := fun u hu hS => by
    refine law_end (xs := ns.map V.int) (H := H0of cs a u) KX G.T.g G.T.b G.T.builtins G.T.nolimit hge tE tK tC G.T.bmain hr hF bd (atT u) (fun b v hb => ?_) (fun b v hb => ?_) ?_
    · unfold H0of at hb
      split at hb
      · exact .inl (inT b ‹_›)
      · split at hb
        · rename_i e
          subst e
          rcases hu with ⟨rfl, _⟩ | ⟨hk, rfl⟩
          · cases hb
          · cases hb; exact .inr ⟨hk, _, _, _, ha, rfl, rfl⟩
        · cases hb
    · unfold H0of at hb
      split at hb
      · rename_i z
        cases hb
        obtain ⟨p, hp, rfl⟩ := inT b z
        exact tE p hp
      · split at hb
        · rename_i e
          subst e
          rcases hu with ⟨rfl, _⟩ | ⟨hk, rfl⟩
          · cases hb
          · cases hb
            exact ⟨ha, by rw [List.length_map]; exact Nat.le_trans hlen hn2, vs, _, rv, ha⟩
        · cases hb
    · have er : C0.at none = { C0 with aw := none } := rfl
      refine ⟨fun _ => False, [.scr ns], fun r => r = .bl true, rfl, ⟨fun t ht => ?_, fun b z => by cases z⟩, fun _ z => z.elim, RpL.cons ?_ RpL.nil, hsp ns hlen hbits, fun d v H' hd _ _ r => by subst hd; exact rp_bl.mp r⟩
      · obtain ⟨p, hp, e⟩ := hT t ht
        exact TabN.nil (by rw [e]; exact atT u p hp)
      · unfold Rp
        exact ⟨a, rfl, by rw [show (C0.at none).K = K from eK]; exact hS⟩
  cases hk : K.lookup a with
  | none => exact go _ (.inr ⟨hk, rfl⟩) (.inl ⟨_, (if_neg aT).trans (if_pos rfl)⟩)
  | some o =>
    have e := KX a o hk
    rw [ha] at e
    cases e
    refine go none (.inl ⟨rfl, by rw [hk]; simp⟩) (.inr fun H' => .inr ⟨_, vs.toArray, _, hk, rfl, rfl, rfl, ?_, by simpa using rv⟩)
    rw [List.size_toArray, hi.length]
    exact Nat.le_trans hlen hn2
end DL

set_option Elab.async false
set_option linter.all false
set_option maxRecDepth 100000
set_option maxHeartbeats 4000000
namespace DL
open PySem PySem.Spec PyProof.Rows L2 NdefX LamX

/-! ### short words for the derivations -/
theorem vr {X : Cx} {x : Str} {pos : Pos} (i : Nat) (h : X.N[i]? = some x) (hv : Vis X.env.scope x) (hd : (x == ("__debug__" : Str)) = false := by decide) (hcd : (x == ("__classdict__" : Str)) = false := by decide) : PE X (.Name x pos) (tVar i) := pe_var h hv hd hcd
theorem je_v {X : Cx} {B : BX} {x : Str} {pos : Pos} (i : Nat) (h : X.N[i]? = some x) (hv : Vis X.env.scope x) (hd : (x == ("__debug__" : Str)) = false := by decide) (hcd : (x == ("__classdict__" : Str)) = false := by decide) : PE X (.Name x pos) (liftE B .c (wVar i)) := je_var i (vr i h hv hd hcd)
theorem je_vO {X : Cx} {B : BX} {x : Str} {pos : Pos} (i : Nat) (h : X.N[i]? = some x) (hv : Vis X.env.scope x) (hd : (x == ("__debug__" : Str)) = false := by decide) (hcd : (x == ("__classdict__" : Str)) = false := by decide) : PE X (.Name x pos) (liftE B .t (wVarO i)) := je_varO i (vr i h hv hd hcd)
theorem vL {sc : Scope} {x : Str} (h : sc.names.lookup x = some .local) : Vis sc x := .inl h
theorem vC {sc : Scope} {x : Str} (h : sc.names.lookup x = some .cell) : Vis sc x := .inr (.inl h)
theorem vF {sc : Scope} {x : Str} (h : sc.names.lookup x = some .free) : Vis sc x := .inr (.inr h)
/-- a def of the program, by its name -/
structure Kn (P : Program) (w : World) (K : PySem.W.Frag) (mg : Str → Option Value) (base : Heap) (C0 : DC) (k : Nat) (x : Str) (st : Stmt) (ps : List Str) (n : Nat) (df : DF) : Prop where
  ex : ∃ a fd, mg x = some (.ref a) ∧ Fun K x x st a fd ∧ FnG P w K mg base CX0 k a fd ps (spD C0 n df)
structure KnW (P : Program) (w : World) (K : PySem.W.Frag) (mg : Str → Option Value) (base : Heap) (C0 : DC) (k j : Nat) (x : Str) (st : Stmt) (ps : List Str) (dw : DFW) : Prop where
  ex : ∃ a fd, mg x = some (.ref a) ∧ Fun K x x st a fd ∧ FnW P w K mg base C0 k a fd ps j dw
theorem FnW.mono {P : Program} {w : World} {K : PySem.W.Frag} {mg : Str → Option Value} {base : Heap} {C0 : DC} {k k' j : Nat} {g : Addr} {fd : FuncData} {ps : List Str} {dw : DFW} (F : FnW P w K mg base C0 k g fd ps j dw) (h : k ≤ k') : FnW P w K mg base C0 k' g fd ps j dw :=
  ⟨fun A outer s H args us vs Q aw f n df hr => F.run A outer s H args us vs Q aw f n df (hr.mono h)⟩
section
variable {X : Cx} {B : BX} {x : Str} {p pos : Pos} {e : Expr} {es : List Expr} {j k n : Nat} {st : Stmt} {ps : List Str} {df : DF} {C0 : DC} {fl : Fl}
theorem je_callN {t : WA} (kn : Kn X.prog X.w X.K X.mg X.base C0 k x st ps n df) (hr : RoomG j X.A) (hk : k ≤ j) (hb : ∀ {f fd}, Fun X.K x x st f fd → L2.Binds X.K fd ps []) (hg : Gl X x) (ha : PA X (e :: es) (liftA B t)) (hB : B.C = C0.at B.C.aw := by rfl)
    (hdb : (x == ("__debug__" : Str)) = false := by decide) (he : starEach (e :: es) X.env = (false, eval e X.env) :: starEach es X.env := by rfl) (hpl : (backTo pos (starEach es X.env)).any (·.1) = false := by rfl) :
    PE X (.Call (.Name x p) (e :: es) [] pos) (liftE B .c (wCall n df t)) := by
  obtain ⟨a, fd, hm, F, G⟩ := kn.ex
  exact je_call (G.mono hk) hr hg hm F.kp (hb F) ha hB hdb he hpl
theorem je_callKN {t : WA} {kws : List Keyword} {ks : List Str} {π : List Nat} (kn : Kn X.prog X.w X.K X.mg X.base C0 k x st ps n df) (hr : RoomG j X.A) (hk : k ≤ j) (hb : ∀ {f fd}, Fun X.K x x st f fd → KBinds X.K fd ps ks (gK π n) (gK π n)) (hg : Gl X x) (ha : PK X kws (liftA B t)) (hB : B.C = C0.at B.C.aw := by rfl)
    (hall : (backToKw pos (keywordEach kws X.env)).all (·.1.isSome) = true := by rfl) (hks : (backToKw pos (keywordEach kws X.env)).filterMap (·.1) = ks := by rfl) (hdb : (x == ("__debug__" : Str)) = false := by decide)
    (hpl : ((backTo pos (starEach [] X.env)).any (·.1) || (backToKw pos (keywordEach kws X.env)).any (·.1.isNone)) = false := by rfl) :
    PE X (.Call (.Name x p) [] kws pos) (liftE B .c (wCallK n π df t)) := by
  obtain ⟨a, fd, hm, F, G⟩ := kn.ex
  exact je_callK (G.mono hk) hr hg hm F.kp (hb F) ha hB hall hks hdb hpl
theorem je_lamWN {i np nN : Nat} {dw : DFW} {tb : WE} {t : WAL} (kn : KnW X.prog X.w X.K X.mg X.base C0 k (i + 1) x st ps dw) (hr : RoomG j X.A) (hk : k ≤ j) (hb : ∀ {f fd}, Fun X.K x x st f fd → L2.Binds X.K fd ps []) (hg : Gl X x) (ha : PAL X B i np nN tb (e :: es) t) (hB : B.C = C0.at B.C.aw := by rfl) (hx : Passes CX0 X E0 := by exact pass0)
    (hdb : (x == ("__debug__" : Str)) = false := by decide) (he : starEach (e :: es) X.env = (false, eval e X.env) :: starEach es X.env := by rfl) (hpl : (backTo pos (starEach es X.env)).any (·.1) = false := by rfl) :
    PE X (.Call (.Name x p) (e :: es) [] pos) (liftE B .c (wLamW ps.length np nN dw tb t)) := by
  obtain ⟨a, fd, hm, F, G⟩ := kn.ex
  exact je_lamW (G.mono hk) hr hg hm F.kp (hb F) ha hB hx hdb he hpl
theorem je_callWN {i np : Nat} {f : Addr} {d1 : DF} {dw : DFW} {t : WA} (kn : KnW X.prog X.w X.K X.mg X.base C0 k i x st ps dw) (hr : RoomG j X.A) (hk : k ≤ j) (hb : ∀ {f fd}, Fun X.K x x st f fd → L2.Binds X.K fd ps []) (hg : Gl X x)
    (clo : CloAt X.prog X.w X.K X.mg X.base B.C i f np d1 X.fs X.H_0 X.s_0.heap) (hex : X.ex = []) (hst : X.env.frame = some X.env.locals) (hH : B.H0 = X.H_0) (ha : PA X (e :: es) (liftA B t)) (hB : B.C = C0.at B.C.aw := by rfl) (hx : Passes CX0 X E0 := by exact pass0)
    (hdb : (x == ("__debug__" : Str)) = false := by decide) (he : starEach (e :: es) X.env = (false, eval e X.env) :: starEach es X.env := by rfl) (hpl : (backTo pos (starEach es X.env)).any (·.1) = false := by rfl) :
    PE X (.Call (.Name x p) (e :: es) [] pos) (liftE B .c (wCallW ps.length f np d1 dw t)) := by
  obtain ⟨a, fd, hm, F, G⟩ := kn.ex
  exact je_callW (G.mono hk) hr hg hm F.kp (hb F) clo hex hst hH ha hB hx hdb he hpl
/-- a constant tuple of the module -/
theorem je_gtup {a : Addr} {ds : List D} (hg : Gl X x) (hm : X.mg x = some (.ref a)) (hr : ∀ O H, Rp B.C O H (.tup ds) (.ref a)) (hd : (x == ("__debug__" : Str)) = false := by decide) : PE X (.Name x pos) (liftE B .c (wC (.tup ds))) := je_const (pe_glob (v := .ref a) hg hm rfl hd) hr
theorem je_gint {i : Int} (hg : Gl X x) (hm : ∃ t, X.mg x = some (.int i t)) (hd : (x == ("__debug__" : Str)) = false := by decide) : PE X (.Name x pos) (liftE B .c (wC (.int i))) := by
  obtain ⟨t, hm⟩ := hm
  exact je_const (pe_glob (v := .int i) hg hm ⟨t, rfl⟩ hd) fun _ _ => rp_int.mpr rfl
theorem je_gstr {z : Str} (hg : Gl X x) (hm : ∃ t, X.mg x = some (.str z t)) (hd : (x == ("__debug__" : Str)) = false := by decide) : PE X (.Name x pos) (liftE B .c (wC (.str z))) := by
  obtain ⟨t, hm⟩ := hm
  exact je_const (pe_glob (v := .str z) hg hm ⟨t, rfl⟩ hd) fun _ _ => rp_str.mpr rfl
end
/-- fn_ok, the code object told -/
theorem fn_okC {P : Program} {w : World} {K : PySem.W.Frag} {mg : Str → Option Value} {base : Heap} {C0 : DC} {x qual : Str} {st : Stmt} {f : Addr} {fd : FuncData} {N ps : List Str} {k n : Nat} {df : DF} (F : Fun K x qual st f fd) (S : FnScope N ps (defScope st)) (hn : ps.length = n)
    (hb : ∀ (A : Around) (outer : List Env) (s : Shared) (H : Hp) (aw : Option Addr) (S : Addr → Prop), RoomG k (A.deeper (envOfC qual (defScope st) s.heap.objs.size f fd.code)) →
      ∃ t : WS, PSs (cxOf CX0 P w K mg base N qual (defScope st) f fd.code A outer s H E0).nox (defBody st) (liftS ⟨C0.at aw, S, H⟩ t) ∧ ∀ ds P, ds.length = n → df ds P → t { nx := fun _ => P .non, rt := P } (startE N.length ds)) :
    FnG P w K mg base CX0 (k + 1) f fd ps (spD C0 n df) := by
  obtain ⟨oc, od, kV, doc, pm, an, cdv, ct, osl, rfl, lk, hcd⟩ := F.ex
  have hlen : ∀ vs H Q E, spD C0 n df vs H Q E → vs.length = ps.length := fun vs H Q E h => by
    obtain ⟨aw, S, ds, P, hl, _, _, r, _⟩ := h
    rw [r.length, hl, hn]
  refine ⟨hlen, fun A outer s H args us vs Q E hr e0 hbd r hsp => ?_⟩
  refine codeAny_mono (R := CR CX0 outer _ w H s Q E0) (LamX.run_ofS (N := N) lk hcd S hr.room e0 hbd r (hlen _ _ _ _ hsp) fun hr' => ?_) fun r s' h => by
    cases r with
    | ok f => cases f <;> exact h
    | error e => exact False.elim h
  obtain ⟨aw, S, ds, P, hl, g, on, r, h, post⟩ := hsp
  obtain ⟨t, ht, hq⟩ := hb A outer s H aw S ⟨hr', hr.gd⟩
  refine ⟨_, ht.nox, _, _, _, start_ok g on r, hq ds P hl h, ?_⟩
  exact ⟨fun ρ' α' σ' H' q ok rel => post .non .non H' q ok.gi (fun a o e s => rel.keep a o e start_noOwn s) (rp_non.mpr rfl), fun _ _ _ _ z => z.elim, fun _ _ _ _ z => z.elim, fun d v H' q g' e r => post d v H' q g' e r⟩

/-- the same, the well where it lies (nowhere, for the law itself) -/
theorem fn_okN {P : Program} {w : World} {K : PySem.W.Frag} {mg : Str → Option Value} {base : Heap} {C : DC} {x qual : Str} {st : Stmt} {f : Addr} {fd : FuncData} {N ps : List Str} {k n : Nat} {df : DF} (F : Fun K x qual st f fd) (S : FnScope N ps (defScope st)) (hn : ps.length = n)
    (hb : ∀ (A : Around) (outer : List Env) (s : Shared) (H : Hp) (S : Addr → Prop), RoomG k (A.deeper (envOfC qual (defScope st) s.heap.objs.size f fd.code)) →
      ∃ t : WS, PSs (cxOf CX0 P w K mg base N qual (defScope st) f fd.code A outer s H E0).nox (defBody st) (liftS ⟨C, S, H⟩ t) ∧ ∀ ds P, ds.length = n → df ds P → t { nx := fun _ => P .non, rt := P } (startE N.length ds)) :
    FnG P w K mg base CX0 (k + 1) f fd ps (spC C n df) := by
  obtain ⟨oc, od, kV, doc, pm, an, cdv, ct, osl, rfl, lk, hcd⟩ := F.ex
  have hlen : ∀ vs H Q E, spC C n df vs H Q E → vs.length = ps.length := fun vs H Q E h => by
    obtain ⟨S, ds, P, hl, _, _, r, _⟩ := h
    rw [r.length, hl, hn]
  refine ⟨hlen, fun A outer s H args us vs Q E hr e0 hbd r hsp => ?_⟩
  refine codeAny_mono (R := CR CX0 outer _ w H s Q E0) (LamX.run_ofS (N := N) lk hcd S hr.room e0 hbd r (hlen _ _ _ _ hsp) fun hr' => ?_) fun r s' h => by
    cases r with
    | ok f => cases f <;> exact h
    | error e => exact False.elim h
  obtain ⟨S, ds, P, hl, g, on, r, h, post⟩ := hsp
  obtain ⟨t, ht, hq⟩ := hb A outer s H S ⟨hr', hr.gd⟩
  refine ⟨_, ht.nox, _, _, _, start_ok g on r, hq ds P hl h, ?_⟩
  exact ⟨fun ρ' α' σ' H' q ok rel => post .non .non H' q ok.gi (fun a o e s => rel.keep a o e start_noOwn s) (rp_non.mpr rfl), fun _ _ _ _ z => z.elim, fun _ _ _ _ z => z.elim, fun d v H' q g' e r => post d v H' q g' e r⟩

/-! ### g(f(a, b)): f makes the well, g gets it -/
def WellD (d : D) : Prop := ∃ i j k : Int, d = .lst [.int i, .int j, .int k] ∧ 0 ≤ i ∧ 0 ≤ j ∧ j < 2147483489 ∧ 0 ≤ k
/-- arguments that no list comes in by -/
def wWell (n : Nat) (d1 d2 : DF) (t : WA) : WE := fun ρ Q => t ρ fun ds => ds.length = n ∧ D.solidL ds = true ∧ d1 ds fun d => WellD d ∧ d2 [.well] fun r => (∃ b, r = .bl b) ∧ Q r
theorem je_well {X : Cx} {B : BX} {x y : Str} {p q pos pos2 : Pos} {e : Expr} {es : List Expr} {j k1 k2 n : Nat} {st1 st2 : Stmt} {ps1 ps2 : List Str} {d1 d2 : DF} {C0 : DC} {t : WA} (kf : Kn X.prog X.w X.K X.mg X.base C0 k1 x st1 ps1 n d1) (kg : Kn X.prog X.w X.K X.mg X.base C0 k2 y st2 ps2 1 d2) (hr : RoomG j X.A) (hk1 : k1 ≤ j) (hk2 : k2 ≤ j)
    (hb1 : ∀ {f fd}, Fun X.K x x st1 f fd → L2.Binds X.K fd ps1 []) (hb2 : ∀ {f fd}, Fun X.K y y st2 f fd → L2.Binds X.K fd ps2 []) (hg1 : Gl X x) (hg2 : Gl X y) (ha : PA X (e :: es) (liftA B t)) (hB : B.C = C0.at none)
    (hdb1 : (x == ("__debug__" : Str)) = false := by decide) (hdb2 : (y == ("__debug__" : Str)) = false := by decide) (he : starEach (e :: es) X.env = (false, eval e X.env) :: starEach es X.env := by rfl) (hpl : (backTo pos (starEach es X.env)).any (·.1) = false := by rfl)
    (he2 : starEach [.Call (.Name x p) (e :: es) [] pos] X.env = [(false, eval (.Call (.Name x p) (e :: es) [] pos) X.env)] := by rfl) :
    PE X (.Call (.Name y q) [.Call (.Name x p) (e :: es) [] pos] [] pos2) (liftE B .c (wWell n d1 d2 t)) := by
  obtain ⟨a1, fd1, hm1, F1, G1⟩ := kf.ex
  obtain ⟨a2, fd2, hm2, F2, G2⟩ := kg.ex
  refine (pe_callG (G2.mono hk2) hr hg2 hm2 F2.kp (hb2 F2) pass0 (pa_cons (pe_callG (G1.mono hk1) hr hg1 hm1 F1.kp (hb1 F1) pass0 ha hdb1 he hpl) pa_nil he2) hdb2 he2 rfl).weak fun σ H R ⟨ρ, α, P, ok, hw, post⟩ => ?_
  refine ⟨ρ, α, _, ok, hw, fun ds vs H1 hd g1 e1 r1 => ?_⟩
  obtain ⟨hl, sol, hd⟩ := hd
  have ok1 := ok.ext g1 e1
  -- no list of this heap may come out
  let S : Addr → Prop := fun a => (∃ u, H1 a = some u ∧ OwnO u) ∧ ¬ B.C.Spc a
  have onS : ON B.C S H1 := fun a z => z
  refine ⟨none, S, ds, _, hl, by rw [← hB]; exact g1, by rw [← hB]; exact onS, by rw [← hB]; exact RpL.solid sol r1, hd, fun d v H2 hd2 g2 e2 r2 => ?_⟩
  rw [← hB] at g2 e2 r2
  obtain ⟨⟨i, j', k, rfl, h1, h2, h3, h4⟩, hd2⟩ := hd2
  obtain ⟨a, xs, rfl, nS, ns, q, rl⟩ := rp_lst.mp r2
  have ex : xs = [.int i, .int j', .int k] := rl_ints (ns := [i, j', k]).mp rl
  subst ex
  have hn : H1 a = none := by
    cases z : H1 a with
    | none => rfl
    | some o =>
      have z2 := e2 a o z ns
      rw [q] at z2
      cases z2
      exact absurd ⟨⟨_, z, .lst⟩, ns⟩ nS
  have ok2 := ok1.ext g2 e2
  have ext0 : ∀ {H3 : Hp}, Ext (C0.at (some a)) H2 H3 → Ext B.C H H3 := fun {H3} e3 b o hb ns => by
    have h12 := e2 b o (e1 b o hb ns) ns
    refine e3 b o h12 fun z => ?_
    rcases z with z | z
    · have z : a = b := Option.some.inj z
      rw [← z] at hb ns
      rw [e1 a o hb ns] at hn; cases hn
    · rw [hB] at ns; exact ns (.inr z)
  have gw : GI (C0.at (some a)) H2 := ⟨by rw [hB] at g2; exact g2.tabs, fun b z => by cases z; exact ⟨i, j', k, q, h1, h2, h3, h4⟩⟩
  have nO : ¬ Own B.S0 ρ α a := fun z => by
    obtain ⟨⟨u, z, _⟩, _⟩ := ok1.on a z
    rw [hn] at z; cases z
  have onO : ON (C0.at (some a)) (Own B.S0 ρ α) H2 := fun b z => by
    obtain ⟨w1, w2⟩ := ok2.on b z
    refine ⟨w1, fun y => ?_⟩
    rcases y with y | y
    · cases y; exact nO z
    · rw [hB] at w2; exact w2 (.inr y)
  refine ⟨some a, Own B.S0 ρ α, [.well], _, rfl, gw, onO, RpL.cons (by unfold Rp; exact ⟨a, rfl, rfl⟩) RpL.nil, hd2, fun d v H3 hp g3 e3 r3 => ?_⟩
  obtain ⟨⟨b, rfl⟩, hp⟩ := hp
  refine post _ v H3 hp ⟨by rw [hB]; exact g3.tabs, fun b z => by rw [hB] at z; cases z⟩ (ext0 e3) ?_
  rw [rp_bl.mp r3]
  exact pc_bl
end DL

set_option Elab.async false
set_option linter.all false
set_option maxRecDepth 100000
set_option maxHeartbeats 4000000
namespace DL
open PySem PySem.Spec PyProof.Rows L2 NdefX LamX

theorem hu1 {k : Nat} {A : Around} (r : RoomG k A) : A.units + 64 < cLine := by have := r.room.un; omega
theorem hu2 {k : Nat} {A : Around} (r : RoomG k A) : A.units + 200 < cLine := by have := r.room.un; omega
section
variable {X : Cx} {B : BX} {C : DC} {x : Str} {p pos : Pos} {e : Expr} {es : List Expr} {fl : Fl}
theorem je_gtupX {ds : List D} (hg : Gl X x) (hm : ∃ a, X.mg x = some (.ref a) ∧ ∀ (C : DC) (O : Addr → Prop) (H : Hp), C.K = X.K → Rp C O H (.tup ds) (.ref a)) (hK : X.K = B.C.K) (hd : (x == ("__debug__" : Str)) = false := by decide) : PE X (.Name x pos) (liftE B .c (wC (.tup ds))) := by
  obtain ⟨a, h1, h2⟩ := hm
  exact je_gtup hg h1 (fun O H => h2 _ O H hK.symm) hd

/-! ### tuple * int -/
theorem op_repF : OpR X (binaryOp .Mult) (fun x y H Q => ∃ l k xs, x = .ref l ∧ y = .int k ∧ SqT X.K H l xs ∧ xs ≠ [] ∧ 2 ≤ k ∧ k ≤ 1000 ∧ xs.length ≤ 1000 ∧ ∀ q o, o.dict = none → H q = none → Q (.ref q) (upd H q (.frz o (.tup (List.replicate k.toNat xs).flatten)))) := by
  rintro pins s σ H x y v u Q I rx ry ⟨l, k, xs, rfl, rfl, hT, hne, k1, k2, hl, q⟩
  cases rx
  obtain ⟨tk, rfl⟩ := ry
  obtain ⟨its, r, ⟨⟨cl, di, da, sl⟩, ho, hc, n, hd⟩, _⟩ := I.tuple hT
  simp only at hc hd
  subst hc hd
  have el : its.length = xs.length := r.length.symm
  have ne : its ≠ [] := fun z => hne (List.eq_nil_of_length_eq_zero (by rw [← el, z]; rfl))
  have em : its.toArray.isEmpty = false := by cases its <;> first | exact absurd rfl ne | rfl
  have sz : its.toArray.size = xs.length := by rw [List.size_toArray, el]
  have mb : ((its.toArray.size : Nat) : Int) * k ≤ 1000000 := by
    rw [sz]
    have : ((xs.length : Nat) : Int) * k ≤ 1000 * k := Int.mul_le_mul_of_nonneg_right (by omega) (by omega)
    omega
  have nb : k.toNat * xs.length ≤ 1000 * 1000 := Nat.mul_le_mul (by omega) hl
  have fl1 : (List.replicate k.toNat its).flatten.length ≤ sizeLine := by rw [PyProof.Rows.lm_len_rep_flat, el, sizeLine_eq]; omega
  have fl2 : (List.replicate k.toNat xs).flatten.length ≤ sizeLine := by rw [PyProof.Rows.lm_len_rep_flat, sizeLine_eq]; omega
  have a0 : (decide (k < -(2 ^ 63)) || decide (k ≥ 2 ^ 63)) = false := by simp; omega
  have a1 : (its.toArray.isEmpty || k == 1) = false := by rw [em]; simp; omega
  have a2 : (decide (k ≤ 0) || its.toArray.isEmpty) = false := by rw [em]; simp; omega
  have a4 : Builtin.Tuple.tupleTooMany (((its.toArray.size : Nat) : Int) * k) = false := by
    unfold Builtin.Tuple.tupleTooMany
    rw [sizeLine_eq]
    exact decide_eq_false (by omega)
  have MW := tuple_mulW l its.toArray n di sl k tk a0 a1 a2 (by omega) a4 (by rw [size_rep, List.size_toArray]; exact fl1)
  refine wpAny_binaryOp_repeat_ref (U := "int") (T := "tuple") (by decide) ⟨_, ho, rfl⟩ (fun s2 => typeIs_int s2 k tk) noFill_tuple_mul F.fills_int_mul F.slot_int_rmul repeat_tuple F.slot_int_index.lookup ?_
  refine call_meets F.slot_int_rmul (typeIs_int s k tk) F.entry_int_rmul (F.args_int_rmul_2 _ _) (int_rmul_tuple k tk l its.toArray n di sl) ⟨ho, rfl, ⟨_, ho, rfl⟩, ?_⟩
  refine call_meets F.slot_tuple_mul ⟨_, ho, rfl⟩ F.entry_tuple_mul (F.args_tuple_mul_2 _ _) MW ⟨ho, ?_⟩
  rw [size_rep]
  exact ⟨.ref s.heap.objs.size, _, laidF (tk := s.toks) I (r.rep k.toNat) fl2, rfl, q _ _ rfl (I.hok.fresh (Nat.le_refl _))⟩
def repD (n : Nat) (ds : List D) : List D := (List.replicate n ds).flatten
theorem rl_rep {O : Addr → Prop} {H : Hp} {ds : List D} {vs : List V} (r : RpL C O H ds vs) : ∀ n, RpL C O H (repD n ds) (List.replicate n vs).flatten
  | 0 => RpL.nil
  | n + 1 => by
    have ih := rl_rep r n
    unfold repD at ih ⊢
    rw [List.replicate_succ, List.replicate_succ, List.flatten_cons, List.flatten_cons]
    exact r.app ih
def dRep : D2 := fun d e Q => match d, e with
  | .tup ds, .int k => ds ≠ [] ∧ 2 ≤ k ∧ k ≤ 1000 ∧ ds.length ≤ 1000 ∧ Q (.tup (repD k.toNat ds))
  | _, _ => False
theorem op_drep (hK : X.K = C.K) : OpR X (binaryOp .Mult) (rD2 C .c dRep) := opr_weak op_repF fun x y H R ⟨O, d, e, P, g, on, r1, r2, h, post⟩ => by
  cases d <;> cases e <;> first
    | exact False.elim h
    | (obtain ⟨h1, h2, h3, h4, h⟩ := h
       obtain ⟨a, xs, rfl, q, r⟩ := rt_tup r1
       refine ⟨a, _, xs, rfl, rt_int r2, by rw [hK]; exact q.sq, fun z => h1 ?_, h2, h3, by rw [r.length]; exact h4, fun p o ho hn => post _ _ _ h (g.new hn) (Ext.new hn) (rp_newtup g hn ho (rl_rep r _))⟩
       rw [z] at r
       exact rl_empty r)

/-! ### list(range(..)) -/
def wLRg1 (t : WE) : WE := fun ρ Q => t ρ fun d => match d with
  | .int j => j ≤ 16777216 ∧ 0 ≤ j ∧ Q (.lst (rngD 0 j.toNat))
  | _ => False
theorem rgV_rng {O : Addr → Prop} {H : Hp} (b : Int) : RpL C O H (rngD 0 b.toNat) (rgV 0 b) := by
  have e1 : rgV 0 b = ((List.range b.toNat).map fun i => (0 : Int) + (i : Nat)).map V.int := by
    unfold rgV
    rw [List.map_map, Int.sub_zero]
    rfl
  have e2 : rngD 0 b.toNat = ((List.range b.toNat).map fun i => (0 : Int) + (i : Nat)).map D.int := by
    unfold rngD
    rw [List.map_map]
    rfl
  rw [e1, e2]
  exact rl_ints.mpr rfl
theorem je_listRg {t : WE} {p2 pos2 : Pos} (hc : X.calm = true) (hg : Gl X "list") (hm : X.mg "list" = none) (hg2 : Gl X "range") (hm2 : X.mg "range" = none) (h : PE X e (liftE B fl t)) (na : starEach [.Call (.Name "range" p2) [e] [] pos2] X.env = (false, eval (.Call (.Name "range" p2) [e] [] pos2) X.env) :: starEach [] X.env := by rfl) (na2 : starEach [e] X.env = (false, eval e X.env) :: starEach [] X.env := by rfl) :
    PE X (.Call (.Name "list" p) [.Call (.Name "range" p2) [e] [] pos2] [] pos) (liftE B .n (wLRg1 t)) :=
  (pe_listRg hc hg hm (prg_1 hg2 hm2 h.toT na2) na).weak fun σ H R ⟨ρ, α, P, E, hw, post⟩ => ⟨ρ, α, _, E, hw, fun d v H1 hd g1 e1 r1 => by
    cases d <;> first
      | exact False.elim hd
      | skip
    rename_i j
    obtain ⟨h1, h2, hd⟩ := hd
    exact ⟨j, rt_int r1.rt, RgOk.of_le (Int.le_refl _) h1 (by decide) h2, fun q hn => post _ _ _ hd (g1.new hn) (e1.trans (Ext.new hn)) (Post.before (H := H1) g1 e1 ⟨q, rfl, hn, rt_newlst g1 hn (rgV_rng j)⟩)⟩⟩

/-! ### statements -/
def wMuT (i : Nat) (T : String) (dm : DMu) (ta : WA) : WS := fun E ρ => withOwn ρ i (fun d => d.isT T) ∧ wMu i dm ta E ρ
theorem isT_append : ∀ d, OwnD d → ∀ es P, dAppend d es P → d.isT "list" := fun d _ es P h => by
  unfold dAppend at h
  split at h
  · exact (rfl : "list" = "list")
  · exact h.elim
theorem KPost.up {H H1 H2 : Hp} (g : GI C H1) (e : Ext C H1 H2) : ∀ {ks : List Kd} {O : Addr → Prop} {ds : List D} {vs : List V}, KPost C O H H1 ks ds vs → KPost C O H H2 ks ds vs
  | [], _, _, _, h => h
  | .d :: ks, _, _, _, ⟨d, f, v, w, e1, e2, r, k⟩ => ⟨d, f, v, w, e1, e2, Rp.ext g e r, KPost.up g e k⟩
  | .o :: ks, _, _, _, ⟨d, f, a, w, e1, e2, n, od, no, r, k⟩ => ⟨d, f, a, w, e1, e2, n, od, no, RpT.ext g e r, KPost.up g e k⟩
def gNames : List Nat → TGs
  | [] => gNil
  | i :: js => gCons (gName i) (gNames js)
theorem gNames_run : ∀ {js : List Nat} {vs : List V} {σ : L2.St} {H : Hp} {Q : L2.St → Hp → Prop}, vs.length = js.length → Q (sets σ js vs) H → gNames js vs σ H Q
  | [], [], σ, H, Q, _, h => ⟨rfl, h⟩
  | i :: js, v :: vs, σ, H, Q, hl, h => ⟨v, vs, rfl, gNames_run (by simpa using hl) h⟩
/-- a, b = x, y where a tuple is made -/
theorem js_parT {ts : List Expr} {js : List Nat} {ks : List Kd} {t : WA} {k1 k2 : Nat} {p1 p2 : Pos} (hl : js.length = ks.length) (hc : X.calm = true) (hg : PGs X ts (gNames js)) (ha : PA X es (liftK B ks t)) (hsz : ks.length ≤ sizeLine) (hn : (assignEach ts X.env).length = ks.length := by rfl) (hst : (assignEach ts X.env).findIdx? (·.1) = none := by rfl)
    (hs : swapsWithSole [.Tuple ts k1 p1] (.Tuple es k2 p2) pos.line X.env = pure false := by rfl) (hw : swappedStores [.Tuple ts k1 p1] (.Tuple es k2 p2) X.env = pure none := by rfl)
    (h1 : (assignEach [.Tuple ts k1 p1] X.env).map (·.2) = [assign (.Tuple ts k1 p1) X.env] := by rfl) : PS X (.Assign [.Tuple ts k1 p1] (.Tuple es k2 p2) pos) (liftS B (wPar js ks t)) :=
  (ps_asg (pe_tup ha) (pg_tup (n := ks.length) hc hg hn hst) hs hw h1).weak fun D σ H ⟨ρ, α, E, ok, hw, p⟩ => ⟨ρ, α, _, ok, hw, fun ds vs H1 hd g1 e1 k => by
    have hv := (kpost_len k).1
    refine ⟨by rw [hv]; exact hsz, fun q hq => ⟨q, vs, rfl, SqT.of upd_same, hv, gNames_run (by rw [hv, hl]) ?_⟩⟩
    exact par_fin hl ok p hd (g1.new hq) (e1.trans (Ext.new hq)) (k.up g1 (Ext.new hq))⟩
end
end DL

set_option Elab.async false
set_option linter.all false
set_option maxRecDepth 100000
set_option maxHeartbeats 4000000
namespace DL
open PySem PySem.Spec PyProof.Rows L2 NdefX LamX
/-- _law_dip: some number from 0 to many - 1 -/
def d_dip : DF := fun ds P => ∃ n : Int, ds = [.well, .int n] ∧ 0 < n ∧ n < 1073741824 ∧ ∀ k, 0 ≤ k → k < n → P (.int k)
abbrev tWix (K : PySem.W.Frag) (j : Int) : TE := tOp (rIxL K) (tVar 0) (tC (V.int j))
abbrev rInt1 : List V → Hp → VK → Prop := fun xs H Q => (∃ i, xs = [V.int i] ∧ Q (V.int i) H) ∨ ∃ k, xs = [V.bl k] ∧ Q (V.int (if k = true then 1 else 0)) H
def t_dip1 (K : PySem.W.Frag) : TS := tIfS (tTest (tOp (rI0 fun i j => V.bl (decide (j < i))) (tWix K 0) (tC (V.int 0))))
  (tSeq (tAsg (tCB (fun xs H Q => ∃ i j, xs = [V.int i, V.int j] ∧ CDiv i j ∧ ∀ (p : Addr), H p = none → Q (V.ref p) (upd H p (HO.tup [V.int (i / j), V.int (i % j)]))) (tCons (tWix K 0) (tCons (tVar 1) tNil)))
      (gTup K 2 (gCons (gSub (tVar 0) (tC (V.int 0)) rSetL) (gCons (gName 2) gNil)))) (tRet (tVar 2))) tNext
def t_dip2 (K : PySem.W.Frag) : TS := tAsg (tOp (rI0 fun i j => V.int (i + j)) (tWix K 2) (tC (V.int 1))) (gSub (tVar 0) (tC (V.int 2)) rSetL)
def t_dip3 (K : PySem.W.Frag) : TS := tAsg (tOp (rI (fun x j => 0 < j) fun i j => V.int (i % j)) (tCB rInt1 (tCons (tOp (rI0 fun i j => V.int (i + j)) (tOp (rI0 fun i j => V.int (i + j)) (tOp (rI CMul fun i j => V.int (i * j)) (tWix K 1) (tC (V.int 48271))) (tOp (rI CMul fun i j => V.int (i * j)) (tC (V.int 7919)) (tWix K 2))) (tC (V.int 149))) tNil)) (tC (V.int 2147480009))) (gSub (tVar 0) (tC (V.int 1)) rSetL)
def t_dip4 (K : PySem.W.Frag) : TS := tRet (tOp (rI (fun x j => 0 < j) fun i j => V.int (i % j)) (tCB rInt1 (tCons (tOp (rI CDiv fun i j => V.int (i / j)) (tWix K 1) (tC (V.int 163))) tNil)) (tVar 1))
def t_dip (K : PySem.W.Frag) : TS := tSeq (t_dip1 K) (tSeq (t_dip2 K) (tSeq (t_dip3 K) (t_dip4 K)))
section
variable {K : PySem.W.Frag} {σ : L2.St} {H : Hp} {a : Addr} {i j k n : Int} {Q : VK}
theorem ixN3 : ixN 3 0 = some 0 ∧ ixN 3 1 = some 1 ∧ ixN 3 2 = some 2 := ⟨rfl, rfl, rfl⟩
theorem wix (h0 : σ[0]? = some (some (.ref a))) (hH : H a = some (.lst [.int i, .int j, .int k])) {m : Nat} {x : Int} (hx : atI [V.int i, .int j, .int k] (m : Nat) = some (.int x)) (q : Q (.int x) H) : tWix K (m : Nat) σ H Q :=
  ⟨_, h0, a, _, _, _, rfl, rfl, SqL.of hH, hx, q⟩
end
theorem dip_plain {K : PySem.W.Frag} {T : List NTab} {vs : List V} {H : Hp} {Q : VK} (h : spD ⟨K, T, none⟩ 2 d_dip vs H Q E0) :
    t_dip K { nx := fun _ H' => Q .non H', rt := Q } (L2.start ["well", "many", "digit"] vs) H := by
  obtain ⟨aw, S, ds, P, _, g, on, r, ⟨n, rfl, n1, n2, hP⟩, post⟩ := h
  obtain ⟨v0, ws, rfl, r0, rs⟩ := rl_cons.mp r
  obtain ⟨v1, ev, r1⟩ := rl_1c rs
  subst ev
  rw [rp_int.mp r1]
  unfold Rp at r0
  obtain ⟨a, haw, rfl⟩ := r0
  obtain ⟨i, j, k, hH, i0, j0, j1, k0⟩ := g.well a haw
  have spa : (DC.at ⟨K, T, none⟩ aw).Spc a := .inl haw
  -- the well is written
  have wr : ∀ (H1 : Hp) (i j k : Int), GI (DC.at ⟨K, T, none⟩ aw) H1 → (∃ xs, H1 a = some (.lst xs)) → 0 ≤ i → 0 ≤ j → j < 2147483489 → 0 ≤ k → GI (DC.at ⟨K, T, none⟩ aw) (upd H1 a (.lst [.int i, .int j, .int k])) ∧ Ext (DC.at ⟨K, T, none⟩ aw) H1 (upd H1 a (.lst [.int i, .int j, .int k])) := fun H1 i j k g1 ⟨xs, hx⟩ a1 a2 a3 a4 =>
    ⟨⟨fun p hp => TabN.write .lst hx (g1.tabs p hp), fun b e => by
      have eb : a = b := Option.some.inj (haw.symm.trans e)
      subst eb
      exact ⟨i, j, k, upd_same, a1, a2, a3, a4⟩⟩, fun b o hb ns => by rw [upd_ne (fun z => ns (by rw [z]; exact spa))]; exact hb⟩
  have fin : ∀ (x : Int) (H1 : Hp), 0 ≤ x → x < n → GI (DC.at ⟨K, T, none⟩ aw) H1 → Ext (DC.at ⟨K, T, none⟩ aw) H H1 → Q (.int x) H1 := fun x H1 a1 a2 g1 e1 => post (.int x) _ H1 (hP x a1 a2) g1 e1 (rp_int.mpr rfl)
  have s0 : (L2.start ["well", "many", "digit"] [V.ref a, V.int n])[0]? = some (some (.ref a)) := rfl
  have s1 : (L2.start ["well", "many", "digit"] [V.ref a, V.int n])[1]? = some (some (.int n)) := rfl
  -- a cell of the well
  have tail : tSeq (t_dip2 K) (tSeq (t_dip3 K) (t_dip4 K)) { nx := fun _ H' => Q .non H', rt := Q } (L2.start ["well", "many", "digit"] [V.ref a, V.int n]) H := by
    obtain ⟨g1, e1⟩ := wr H i j (k + 1) g ⟨_, hH⟩ i0 j0 j1 (by omega)
    have h1 : upd H a (.lst [.int i, .int j, .int (k + 1)]) a = some (.lst [.int i, .int j, .int (k + 1)]) := upd_same
    have b0 : 0 ≤ (j * 48271 + 7919 * (k + 1) + 149) % 2147480009 := Int.emod_nonneg _ (by decide)
    have b1 : (j * 48271 + 7919 * (k + 1) + 149) % 2147480009 < 2147480009 := Int.emod_lt_of_pos _ (by decide)
    generalize hB : (j * 48271 + 7919 * (k + 1) + 149) % 2147480009 = B at b0 b1
    obtain ⟨g2, e2⟩ := wr _ i B (k + 1) g1 ⟨_, h1⟩ i0 b0 (by omega) (by omega)
    have h2 : upd (upd H a (.lst [.int i, .int j, .int (k + 1)])) a (.lst [.int i, .int B, .int (k + 1)]) a = some (.lst [.int i, .int B, .int (k + 1)]) := upd_same
    refine wix (m := 2) s0 hH rfl ⟨_, _, rfl, rfl, ?_⟩
    refine ⟨_, s0, _, _, 2, 2, rfl, rfl, hH, rfl, ?_⟩
    refine wix (m := 1) s0 h1 rfl ⟨_, _, rfl, rfl, .inl ⟨by omega, by omega⟩, ?_⟩
    refine wix (m := 2) s0 h1 rfl ⟨_, _, rfl, rfl, .inl ⟨by decide, by decide⟩, ?_⟩
    refine ⟨_, _, rfl, rfl, ?_⟩
    refine ⟨_, _, rfl, rfl, ?_⟩
    refine .inl ⟨_, rfl, ?_⟩
    refine ⟨_, _, rfl, rfl, (by show (0 : Int) < 2147480009; decide), ?_⟩
    refine ⟨_, s0, a, _, 1, 1, rfl, rfl, h1, rfl, ?_⟩
    show t_dip4 K { nx := fun _ H' => Q .non H', rt := Q } (L2.start ["well", "many", "digit"] [V.ref a, V.int n]) (upd (upd H a (.lst [.int i, .int j, .int (k + 1)])) a (.lst [.int i, .int ((j * 48271 + 7919 * (k + 1) + 149) % 2147480009), .int (k + 1)]))
    rw [hB]
    refine wix (m := 1) s0 h2 rfl ⟨_, _, rfl, rfl, ⟨by decide, by decide⟩, ?_⟩
    refine .inl ⟨_, rfl, ?_⟩
    refine ⟨_, s1, _, _, rfl, rfl, n1, ?_⟩
    exact fin _ _ (Int.emod_nonneg _ (by omega)) (Int.emod_lt_of_pos _ n1) g2 (e1.trans e2)
  refine wix (m := 0) s0 hH rfl ⟨_, _, rfl, rfl, _, rfl, ?_⟩
  by_cases hi : (0 : Int) < i
  · have n0 : n ≠ 0 := by omega
    show (if decide ((0 : Int) < i) = true then _ else _)
    rw [if_pos (decide_eq_true hi)]
    refine wix (m := 0) s0 hH rfl ⟨_, s1, _, _, rfl, ⟨n1, n2⟩, fun p hp => ⟨p, _, rfl, SqT.of upd_same, rfl, ?_⟩⟩
    have npa : a ≠ p := fun z => by rw [← z, hH] at hp; cases hp
    have hH1 : upd H p (HO.tup [V.int (i / n), V.int (i % n)]) a = some (.lst [.int i, .int j, .int k]) := by rw [upd_ne npa]; exact hH
    obtain ⟨g2, e2⟩ := wr _ (i / n) j k (g.new hp) ⟨_, hH1⟩ (Int.ediv_nonneg i0 (by omega)) j0 j1 k0
    refine ⟨_, _, rfl, ?_⟩
    refine ⟨_, s0, _, _, 0, 0, rfl, rfl, hH1, rfl, ?_⟩
    refine ⟨_, _, rfl, rfl, ?_⟩
    refine ⟨_, rfl, ?_⟩
    exact fin _ _ (Int.emod_nonneg _ n0) (Int.emod_lt_of_pos _ n1) g2 ((Ext.new hp).trans e2)
  · show (if decide ((0 : Int) < i) = true then _ else _)
    rw [if_neg (by simpa using hi)]
    exact tail
end DL
namespace DL
open PySem PySem.Spec PyProof.Rows L2 NdefX LamX
theorem lamFk {sc scope : Scope} (h : (scope.names.all fun y => !decide (y.2 = .free) || (decide (sc.names.lookup y.1 = some .cell) || decide (sc.names.lookup y.1 = some .free))) = true) : ∀ y ∈ scope.names, y.2 = .free → sc.names.lookup y.1 = some .cell ∨ sc.names.lookup y.1 = some .free := fun y hy e => by
  have q := List.all_eq_true.mp h y hy
  rw [e] at q
  simpa using q
end DL
namespace DL
open PySem PySem.Spec PyProof.Rows L2 NdefX LamX
/-- two texts -/
def dEqS : D2 := fun d e Q => match d, e with
  | .str x, .str y => Q (.bl (decide (x = y)))
  | _, _ => False
def dNeS : D2 := fun d e Q => match d, e with
  | .str x, .str y => Q (.bl (!decide (x = y)))
  | _, _ => False
theorem dec_str {x y : Str} : decide (V.str x = V.str y) = decide (x = y) := by
  by_cases h : x = y
  · subst h; simp
  · rw [decide_eq_false h, decide_eq_false fun z => h (V.str.inj z)]
theorem op_deqS {X : Cx} {C : DC} : OpR X (compareOp .Eq) (rD2 C .c dEqS) := opr_weak op_eq fun x y H R ⟨O, d, e, P, g, on, r1, r2, h, post⟩ => by
  cases d <;> cases e <;> first
    | exact False.elim h
    | (rw [rt_str r1, rt_str r2]; exact ⟨rfl, by rw [dec_str]; exact post _ _ H h g Ext.refl pc_bl⟩)
theorem op_dneS {X : Cx} {C : DC} : OpR X (compareOp .NotEq) (rD2 C .c dNeS) := opr_weak op_ne fun x y H R ⟨O, d, e, P, g, on, r1, r2, h, post⟩ => by
  cases d <;> cases e <;> first
    | exact False.elim h
    | (rw [rt_str r1, rt_str r2]; exact ⟨rfl, by rw [dec_str]; exact post _ _ H h g Ext.refl pc_bl⟩)
end DL

set_option Elab.async false
set_option linter.all false
set_option maxRecDepth 100000
set_option maxHeartbeats 4000000
namespace DL
open PySem PySem.Spec PyProof.Rows L2 NdefX LamX
/-- the module's name x is a tuple of these texts, its object has no dict -/
def tupD (K : PySem.W.Frag) (x : Str) (vs : List Str) : Bool := match K.lookup (He.ga K x) with
  | some o => decide (o.cls = .type "tuple") && (decide (o.dict = none) && match o.data with
    | .seq its _ => decide (its.size ≤ sizeLine) && He.relAll (vs.map V.str) its.toList
    | _ => false)
  | none => false
theorem tupD_rp {K : PySem.W.Frag} {x : Str} {vs : List Str} (h : tupD K x vs = true) (C : DC) (O : Addr → Prop) (H : Hp) (hC : C.K = K) : Rp C O H (.tup (vs.map .str)) (.ref (He.ga K x)) := by
  unfold tupD at h
  split at h
  · rename_i o q
    obtain ⟨h1, h2⟩ := He.ba h
    obtain ⟨h3, h4⟩ := He.ba h2
    split at h4
    · rename_i its n hd
      obtain ⟨h5, h6⟩ := He.ba h4
      exact rp_tup.mpr ⟨_, _, rfl, .inr ⟨o, its, n, by rw [hC]; exact q, of_decide_eq_true h1, of_decide_eq_true h3, hd, of_decide_eq_true h5, He.relAll_ok h6⟩, rl_strs.mpr rfl⟩
    · cases h4
  · cases h
theorem code_of {K : PySem.W.Frag} {x : Str} {st : Stmt} {fd : FuncData} (F : Fun K x x st (He.fAd K (x, none)) fd) : fd.code = .ref (He.cT K (x, none)).1 := by
  obtain ⟨oc, od, kV, doc, pm, an, cdv, ct, osl, rfl, lk, hcd⟩ := F.ex
  obtain ⟨c, rfl⟩ := He.codeIn_ref hcd
  have := He.codeOf_eq (p := (x, none)) lk rfl
  show Value.ref c = .ref (He.codeOf K (x, none))
  rw [this]
end DL

set_option Elab.async false
set_option linter.all false
set_option maxRecDepth 100000
set_option maxHeartbeats 4000000
namespace DL
open PySem PySem.Spec PyProof.Rows L2 NdefX LamX

/-! ### data that is shown and compared without trouble -/
structure Nic (d : D) (k w : Nat) : Prop where
  py : d.isPy = true
  lay : PyData.canLay0 d.py = true
  dep : PyData.depth d.py ≤ k
  wt : PyData.weight d.py ≤ w
  ish : PyData.intsShort 13 d.py = true
  sho : PyData.showable d.py = true
theorem Nic.mono {d : D} {k w k' w' : Nat} (n : Nic d k w) (h1 : k ≤ k') (h2 : w ≤ w') : Nic d k' w' := ⟨n.py, n.lay, Nat.le_trans n.dep h1, Nat.le_trans n.wt h2, n.ish, n.sho⟩
theorem Nic.shaped {d : D} {k w : Nat} (n : Nic d k w) (hk : k ≤ 64 := by decide) : SeqAt.shaped d.py = true := by
  unfold SeqAt.shaped
  rw [n.lay, Bool.true_and]
  exact decide_eq_true (Nat.le_trans n.dep hk)
theorem Nic.repr {d : D} {k w : Nat} (n : Nic d k w) (hk : k ≤ 64 := by decide) (hw : w ≤ 1048576 := by decide) : ReprOk d := by
  refine ⟨n.py, n.shaped hk, n.sho, ?_⟩
  have h : PyData.layable0 d.py = true := by
    unfold PyData.layable0
    rw [n.lay, decide_eq_true (Nat.le_trans n.dep hk), decide_eq_true (show PyData.weight d.py ≤ 2 ^ 20 from Nat.le_trans n.wt hw)]
    rfl
  have := PyProof.Rows.shown_le13 h n.ish
  rw [sizeLine_eq]
  omega
theorem nic_non : Nic .non 0 0 := ⟨rfl, by simp [D.py, PyData.canLay0], by simp [D.py, PyData.depth], by simp [D.py, PyData.weight], by simp [D.py, PyData.intsShort], by simp [D.py, PyData.showable]⟩
theorem nic_bl {b : Bool} : Nic (.bl b) 0 0 := ⟨rfl, by simp [D.py, PyData.canLay0], by simp [D.py, PyData.depth], by simp [D.py, PyData.weight], by simp [D.py, PyData.intsShort], by simp [D.py, PyData.showable]⟩
theorem nic_int {i : Int} (h : i.natAbs < 1000000000000) : Nic (.int i) 0 40 := by
  have hl : i.natAbs = 0 ∨ i.natAbs.log2 < 40 := by
    by_cases z : i.natAbs = 0
    · exact .inl z
    · exact .inr ((Nat.log2_lt z).mpr (Nat.lt_of_lt_of_le h (by decide)))
  refine ⟨rfl, by simp [D.py, PyData.canLay0], by simp [D.py, PyData.depth], ?_, ?_, ?_⟩
  · simp only [D.py, PyData.weight]
    split
    · omega
    · rename_i q
      rcases hl with z | z
      · simp at q; omega
      · omega
  · simp only [D.py, PyData.intsShort, PyData.shown]
    have := PySem.int_text_length_le10 (k := 12) (by decide) h
    refine decide_eq_true ?_
    show (Str.ofString (toString i)).length ≤ 13
    rw [PySem.ofString_length]
    exact this
  · simp only [D.py, PyData.showable]
    refine decide_eq_true ?_
    rcases hl with z | z
    · rw [z]; decide
    · omega
theorem nic_str {x : Str} {w : Nat} (h : ∀ c ∈ x.cps.toList, c < 1114112) (hl : x.cps.size ≤ w) : Nic (.str x) 0 w := by
  refine ⟨rfl, ?_, by simp [D.py, PyData.depth], by simpa [D.py, PyData.weight] using hl, by simp [D.py, PyData.intsShort], by simp [D.py, PyData.showable]⟩
  simp only [D.py, PyData.canLay0, PyData.strOk]
  rw [← Array.all_toList, List.all_eq_true]
  exact fun c hc => decide_eq_true (h c hc)
theorem nic_all {k w : Nat} : ∀ {ds : List D}, (∀ d ∈ ds, Nic d k w) → D.isPyL ds = true ∧ PyData.canLayAll0 (D.pyL ds) = true ∧ PyData.depthAll (D.pyL ds) ≤ k ∧ PyData.weightAll (D.pyL ds) ≤ ds.length * (w + 1) ∧ PyData.intsShortAll 13 (D.pyL ds) = true ∧ PyData.showableAll (D.pyL ds) = true
  | [], _ => ⟨rfl, by simp [D.pyL, PyData.canLayAll0], by simp [D.pyL, PyData.depthAll], by simp [D.pyL, PyData.weightAll], by simp [D.pyL, PyData.intsShortAll], by simp [D.pyL, PyData.showableAll]⟩
  | d :: ds, h => by
    obtain ⟨a1, a2, a3, a4, a5, a6⟩ := nic_all fun e he => h e (List.mem_cons_of_mem _ he)
    have n := h d List.mem_cons_self
    refine ⟨?_, ?_, ?_, ?_, ?_, ?_⟩
    · simp only [D.isPyL, n.py, a1, Bool.and_self]
    · simp only [D.pyL, PyData.canLayAll0, n.lay, a2, Bool.and_self]
    · simp only [D.pyL, PyData.depthAll]; exact Nat.max_le.mpr ⟨n.dep, a3⟩
    · simp only [D.pyL, PyData.weightAll, List.length_cons]
      have := n.wt
      rw [Nat.succ_mul]
      omega
    · simp only [D.pyL, PyData.intsShortAll, n.ish, a5, Bool.and_self]
    · simp only [D.pyL, PyData.showableAll, n.sho, a6, Bool.and_self]
theorem nic_tup {k w : Nat} {ds : List D} (h : ∀ d ∈ ds, Nic d k w) : Nic (.tup ds) (k + 1) (ds.length * (w + 1)) := by
  obtain ⟨a1, a2, a3, a4, a5, a6⟩ := nic_all h
  exact ⟨by simp only [D.isPy, a1], by simp only [D.py, PyData.canLay0, a2], by simp only [D.py, PyData.depth]; omega, by simpa only [D.py, PyData.weight] using a4, by simp only [D.py, PyData.intsShort, a5], by simp only [D.py, PyData.showable, a6]⟩
theorem nic_lst {k w : Nat} {ds : List D} (h : ∀ d ∈ ds, Nic d k w) : Nic (.lst ds) (k + 1) (ds.length * (w + 1)) := by
  obtain ⟨a1, a2, a3, a4, a5, a6⟩ := nic_all h
  exact ⟨by simp only [D.isPy, a1], by simp only [D.py, PyData.canLay0, a2], by simp only [D.py, PyData.depth]; omega, by simpa only [D.py, PyData.weight] using a4, by simp only [D.py, PyData.intsShort, a5], by simp only [D.py, PyData.showable, a6]⟩
theorem nic_pair {a b : D} {k w : Nat} (h1 : Nic a k w) (h2 : Nic b k w) : Nic (.lst [a, b]) (k + 1) (2 * (w + 1)) := nic_lst fun d hd => by
  rcases List.mem_cons.mp hd with e | e
  · rw [e]; exact h1
  · rw [List.mem_singleton.mp e]; exact h2

/-! ### equal -/
theorem str_beq {x y : Str} : (x == y) = decide (x = y) := by
  by_cases h : x = y
  · subst h; simp
  · rw [decide_eq_false h]; exact beq_eq_false_iff_ne.mpr h
theorem eqv_str {x y : Str} : PyData.eqv (D.str x).py (D.str y).py = decide (x = y) := by simp only [D.py, PyData.eqv]; exact str_beq
theorem eqv_int {i j : Int} : PyData.eqv (D.int i).py (D.int j).py = decide (i = j) := by
  simp only [D.py, PyData.eqv]
  by_cases h : i = j
  · subst h; simp
  · rw [decide_eq_false h]; exact beq_eq_false_iff_ne.mpr h
theorem eqvAll_strs : ∀ {xs ys : List Str}, PyData.eqvAll (D.pyL (xs.map .str)) (D.pyL (ys.map .str)) = decide (xs = ys)
  | [], [] => by simp [D.pyL, PyData.eqvAll]
  | [], y :: ys => by simp [D.pyL, PyData.eqvAll]
  | x :: xs, [] => by simp [D.pyL, PyData.eqvAll]
  | x :: xs, y :: ys => by
    have e := eqv_str (x := x) (y := y)
    have ih := eqvAll_strs (xs := xs) (ys := ys)
    simp only [List.map_cons, D.pyL, PyData.eqvAll, e, ih, List.cons.injEq]
    by_cases h1 : x = y <;> by_cases h2 : xs = ys <;> simp [h1, h2]
theorem eqv_strs {xs ys : List Str} : PyData.eqv (D.tup (xs.map .str)).py (D.tup (ys.map .str)).py = decide (xs = ys) := by
  simp only [D.py, PyData.eqv]; exact eqvAll_strs
theorem any_strs {xs : List Str} {x : Str} : ((xs.map D.str).any fun z => PyData.eqv z.py (D.str x).py) = decide (x ∈ xs) := by
  rw [List.any_map]
  induction xs with
  | nil => simp
  | cons y ys ih =>
    rw [List.any_cons, ih]
    show (PyData.eqv (D.str y).py (D.str x).py || _) = _
    rw [eqv_str]
    by_cases h : y = x
    · subst h; simp
    · have : ¬ x = y := fun z => h z.symm
      simp [h, this]
theorem flat_strs {xs : List Str} : (xs.map D.str).all D.flat = true := by
  rw [List.all_map, List.all_eq_true]
  intro x _; rfl
end DL

set_option Elab.async false
set_option linter.all false
set_option maxRecDepth 100000
set_option maxHeartbeats 4000000
namespace DL
open PySem PySem.Spec PyProof.Rows L2 NdefX LamX

/-! ### comprehensions and loops, plainly -/
def lcStep (g : WG) (tt : WT) (te : WE) (ρ : Ev) (d : D) (K : Option D → Prop) : Prop := g d ρ fun ρ1 => tt ρ1 fun b => match b with
  | true => te ρ1 fun y => K (some y)
  | false => K none
theorem lcGo_step {g : WG} {tt : WT} {te : WE} {ρ : Ev} {d : D} {ds acc : List D} {Q : List D → Prop} (hl : acc.length < sizeLine) (mono : ∀ K K' : Option D → Prop, (∀ o, K o → K' o) → lcStep g tt te ρ d K → lcStep g tt te ρ d K')
    (h : lcStep g tt te ρ d fun o => match o with
      | some y => lcGo g tt te ρ ds (acc ++ [y]) Q
      | none => lcGo g tt te ρ ds acc Q) : lcStep g tt te ρ d fun o => match o with
      | some y => acc.length < sizeLine ∧ lcGo g tt te ρ ds (acc ++ [y]) Q
      | none => lcGo g tt te ρ ds acc Q := mono _ _ (fun o h => by cases o <;> first | exact h | exact ⟨hl, h⟩) h
theorem lcGo_eq {g : WG} {tt : WT} {te : WE} {ρ : Ev} {d : D} {ds acc : List D} {Q : List D → Prop} : lcGo g tt te ρ (d :: ds) acc Q = lcStep g tt te ρ d fun o => match o with
      | some y => acc.length < sizeLine ∧ lcGo g tt te ρ ds (acc ++ [y]) Q
      | none => lcGo g tt te ρ ds acc Q := by
  unfold lcStep
  rfl
theorem lcGo_map {g : WG} {tt : WT} {te : WE} {ρ : Ev} {f : D → Option D} {Q : List D → Prop} : ∀ {ds acc : List D}, (∀ d ∈ ds, ∀ K : Option D → Prop, K (f d) → lcStep g tt te ρ d K) → acc.length + ds.length ≤ sizeLine → Q (acc ++ ds.filterMap f) → lcGo g tt te ρ ds acc Q
  | [], acc, _, _, h => by simpa [lcGo] using h
  | d :: ds, acc, hs, hl, h => by
    rw [lcGo_eq]
    rw [List.length_cons] at hl
    refine hs d List.mem_cons_self _ ?_
    cases e : f d with
    | none =>
      rw [List.filterMap_cons_none e] at h
      exact lcGo_map (fun x hx => hs x (List.mem_cons_of_mem _ hx)) (by omega) h
    | some y =>
      rw [List.filterMap_cons_some e] at h
      exact ⟨by omega, lcGo_map (fun x hx => hs x (List.mem_cons_of_mem _ hx)) (by rw [List.length_append, List.length_singleton]; omega) (by rw [List.append_assoc]; exact h)⟩
theorem lcGo_any {g : WG} {tt : WT} {te : WE} {ρ : Ev} {S : D → Prop} {Q : List D → Prop} : ∀ {ds acc : List D}, (∀ d ∈ ds, ∀ K : Option D → Prop, (∀ y, S y → K (some y)) → lcStep g tt te ρ d K) → acc.length + ds.length ≤ sizeLine → (∀ ys : List D, ys.length = ds.length → (∀ y ∈ ys, S y) → Q (acc ++ ys)) → lcGo g tt te ρ ds acc Q
  | [], acc, _, _, h => by simpa [lcGo] using h [] rfl (fun y hy => absurd hy (by simp))
  | d :: ds, acc, hs, hl, h => by
    rw [lcGo_eq]
    rw [List.length_cons] at hl
    refine hs d List.mem_cons_self _ fun y hy => ⟨by omega, ?_⟩
    refine lcGo_any (fun x hx => hs x (List.mem_cons_of_mem _ hx)) (by rw [List.length_append, List.length_singleton]; omega) fun ys hl2 hS => ?_
    rw [List.append_assoc]
    exact h (y :: ys) (by rw [List.length_cons, hl2, List.length_cons]) fun z hz => (List.mem_cons.mp hz).elim (fun e => by rw [e]; exact hy) (hS z)
theorem forGo_inv {g : WG} {body : WS} {E : WEnds} (Pv : Nat → Ev → Prop) : ∀ {items : List D} {ρ : Ev} (k : Nat), Pv k ρ → (∀ i d ρ (nx : Ev → Prop), items[i]? = some d → Pv (k + i) ρ → (∀ ρ', Pv (k + i + 1) ρ' → nx ρ') → g d ρ fun ρ1 => body { nx := nx, ct := nx, bk := E.nx, rt := E.rt } ρ1) →
    (∀ ρ, Pv (k + items.length) ρ → E.nx ρ) → forGo g body items E ρ
  | [], ρ, k, h0, _, he => he ρ h0
  | d :: ds, ρ, k, h0, hs, he => hs 0 d ρ _ rfl h0 fun ρ' h' => forGo_inv Pv (k + 1) h' (fun i d ρ nx h1 h2 h3 => hs (i + 1) d ρ nx h1 (by rw [show k + (i + 1) = k + 1 + i by omega]; exact h2) fun ρ2 h4 => h3 ρ2 (by rw [show k + 1 + i + 1 = k + (i + 1) + 1 by omega]; exact h4))
      (fun ρ h => he ρ (by rw [List.length_cons, show k + (ds.length + 1) = k + 1 + ds.length by omega]; exact h))
theorem all_bls {bs : List Bool} : ∀ P : D → Prop, P (.bl (bs.all id)) → dAll [.lst (bs.map .bl)] P := fun P h => ⟨bs, rfl, by simpa using h⟩
end DL

set_option Elab.async false
set_option linter.all false
set_option maxRecDepth 100000
set_option maxHeartbeats 4000000
namespace K55
open PySem PySem.Spec PyProof.Rows L2 NdefX LamX DL
def c_WORDS : List D := [(.str "ahead"), (.str "all"), (.str "as"), (.str "ask"), (.str "at"), (.str "behind"), (.str "book"), (.str "by"), (.str "code"), (.str "cost"), (.str "end"), (.str "first"), (.str "fixed"), (.str "front"), (.str "in"), (.str "is"), (.str "last"), (.str "leave"), (.str "never"), (.str "next"), (.str "none"), (.str "of"), (.str "order"), (.str "place"), (.str "put"), (.str "shelf"), (.str "step"), (.str "take"), (.str "times"), (.str "to"), (.str "undo"), (.str "with")]
def t__law_one : WS := (wRet (wBin dIx (wVar 1) (wCall 2 d_dip (wCons (wVar 0) (wCons (wApp dLen (wCons (wVar 1) wNil)) wNil)))))
def d__law_one : DF := fun ds P => t__law_one { nx := fun _ => P .non, rt := P } (startE 2 ds)
def t__law_words : WS := (wSeq (wPar [2, 3] [.d, .o] (wCons (wC (.str "abcdefghijklmnopqrstuvwxyz")) (wCons (fun ρ Q => (wLst wNil) ρ fun d => OwnD d ∧ Q d) wNil)))
  (wSeq (wAsg (wLst (wCons (wC (.str "ahead")) (wCons (wC (.str "all")) (wCons (wC (.str "as")) (wCons (wC (.str "ask")) (wCons (wC (.str "at")) (wCons (wC (.str "behind")) (wCons (wC (.str "book")) (wCons (wC (.str "by")) (wCons (wC (.str "code")) (wCons (wC (.str "cost")) (wCons (wC (.str "end")) (wCons (wC (.str "first")) (wCons (wC (.str "fixed")) wNil)))))))))))))) (gN 4))
  (wSeq (wAsg (wBin dAdd (wVar 4) (wLst (wCons (wC (.str "front")) wNil))) (gN 4))
  (wSeq (wAsg (wBin dAdd (wVar 4) (wLst (wCons (wC (.str "in")) (wCons (wC (.str "is")) (wCons (wC (.str "last")) (wCons (wC (.str "leave")) (wCons (wC (.str "never")) (wCons (wC (.str "next")) (wCons (wC (.str "none")) (wCons (wC (.str "of")) (wCons (wC (.str "order")) (wCons (wC (.str "place")) (wCons (wC (.str "put")) (wCons (wC (.str "shelf")) wNil)))))))))))))) (gN 4))
  (wSeq (wAsg (wBin dAdd (wVar 4) (wLst (wCons (wC (.str "step")) wNil))) (gN 4))
  (wSeq (wAsg (wBin dAdd (wVar 4) (wLst (wCons (wC (.str "take")) (wCons (wC (.str "times")) (wCons (wC (.str "to")) (wCons (wC (.str "undo")) (wCons (wC (.str "with")) (wCons (wC (.str "done")) (wCons (wC (.str "yes")) (wCons (wC (.str "no")) (wCons (wC (.str "back")) wNil))))))))))) (gN 4))
  (wSeq (wFor (wRange1 (wCons (wVar 1) wNil)) (gN 5) (wSeq (wAsg (wMeth "str" dJoin (wC (.str "")) (wCons (wLc (wRange1 (wCons (wBin dAdd (wC (.int 1)) (wCall 2 d_dip (wCons (wVar 0) (wCons (wCall 2 d__law_one (wCons (wVar 0) (wCons (wLst (wCons (wC (.int 2)) (wCons (wC (.int 3)) (wCons (wC (.int 8)) wNil)))) wNil))) wNil)))) wNil)) (gN 8) wYes (wCall 2 d__law_one (wCons (wVar 0) (wCons (wVar 2) wNil))) [8]) wNil)) (gN 6))
  (wSeq (wAsg (wBin dAdd (wBin dAdd (wLst (wCons (wVar 6) wNil)) (wLc (wStr (wVar 2)) (gN 9) wYes (wBin dAdd (wBin dAdd (wSl (wVar 6) wNoPart (wPart (wC (.int 6)))) (wVar 9)) (wC (.str "q"))) [9])) (wLc (wStr (wVar 2)) (gN 9) wYes (wBin dAdd (wBin dAdd (wSl (wVar 6) wNoPart (wPart (wC (.int 6)))) (wVar 9)) (wC (.str "z"))) [9])) (gN 7))
  (wMuT 3 "list" dAppend (wCons (wBin dIx (wLc (wSq (wVar 7)) (gN 10) (wTest (wBin dNotIn (wVar 10) (wBin dAdd (wVarO 3) (wVar 4)))) (wVar 10) [10]) (wC (.int 0))) wNil)))))
  (wRet (wVarO 3)))))))))
def d__law_words : DF := fun ds P => t__law_words { nx := fun _ => P .non, rt := P } (startE 11 ds)
def t__law_shelf : WS := (wRet (wApp dTuple (wCons (wCall 2 d__law_words (wCons (wVar 0) (wCons (wBin dAdd (wC (.int 1)) (wCall 2 d_dip (wCons (wVar 0) (wCons (wVar 1) wNil)))) wNil))) wNil)))
def d__law_shelf : DF := fun ds P => t__law_shelf { nx := fun _ => P .non, rt := P } (startE 2 ds)
def t__law_asks : WS := (wSeq (wAsg (wIfE (wTest (wBin dEq (wCall 2 d_dip (wCons (wVar 0) (wCons (wC (.int 2)) wNil))) (wC (.int 0)))) (wSl (wVar 1) wNoPart (wPart (wBin dAdd (wC (.int 1)) (wCall 2 d_dip (wCons (wVar 0) (wCons (wApp dLen (wCons (wVar 1) wNil)) wNil)))))) (wVar 1)) (gN 3))
  (wRet (wApp dTuple (wCons (wLc (wRange1 (wCons (wCall 2 d_dip (wCons (wVar 0) (wCons (wBin dAdd (wVar 2) (wC (.int 1))) wNil))) wNil)) (gN 4) wYes (wCall 2 d__law_one (wCons (wVar 0) (wCons (wVar 3) wNil))) [4]) wNil))))
def d__law_asks : DF := fun ds P => t__law_asks { nx := fun _ => P .non, rt := P } (startE 5 ds)
def t_is_word : WS := (wRet (wAndV (wUn (dIsi "str") (wVar 0)) (wAndV (wBin dNe (wVar 0) (wC (.str ""))) (wApp dAll (wCons (wLc (wStr (wVar 0)) (gN 1) wYes (wBin dIn (wVar 1) (wC (.str "abcdefghijklmnopqrstuvwxyz"))) [1]) wNil)))))
def d_is_word : DF := fun ds P => t_is_word { nx := fun _ => P .non, rt := P } (startE 2 ds)
def t_is_name : WS := (wRet (wAndV (wCall 1 d_is_word (wCons (wVar 0) wNil)) (wAndV (wBin dLe (wApp dLen (wCons (wVar 0) wNil)) (wC (.int 8))) (wBin dNotIn (wVar 0) (wC (.tup c_WORDS))))))
def d_is_name : DF := fun ds P => t_is_name { nx := fun _ => P .non, rt := P } (startE 1 ds)
def t_is_shelf_form : WS := (wSeq (wIf (wOr (wNot (wTest (wUn (dIsi "tuple") (wVar 0)))) (wOr (wNot (wTest (wChain dLe dLe (wC (.int 1)) (wApp dLen (wCons (wVar 0) wNil)) (wC (.int 7))))) (wNot (wTest (wApp dAll (wCons (wLc (wSq (wVar 0)) (gN 1) wYes (wCall 1 d_is_name (wCons (wVar 1) wNil)) [1]) wNil)))))) (wRet (wC (.bl false))) wNext)
  (wRet (wApp dAll (wCons (wLc (wSq (wVar 0)) (gN 1) wYes (wBin dEq (wMeth "tuple" dCountT (wVar 0) (wCons (wVar 1) wNil)) (wC (.int 1))) [1]) wNil))))
def d_is_shelf_form : DF := fun ds P => t_is_shelf_form { nx := fun _ => P .non, rt := P } (startE 2 ds)
def t_check_shelf : WS := (wIf (wNot (wTest (wCall 1 d_is_shelf_form (wCons (wVar 0) wNil)))) wNever wNext)
def d_check_shelf : DF := fun ds P => t_check_shelf { nx := fun _ => P .non, rt := P } (startE 1 ds)
def t_wrong_at (f : Addr) (n : Nat) (df : DF) : WS := (wSeq (wIf (wNot (wTest (wUn (dIsi "tuple") (wVar 0)))) (wRet (wLst (wCons (wC .non) wNil))) wNext)
  (wSeq (wFor (wEnum (wCons (wVar 0) wNil)) (gT 2 (gsC (gN 2) (gsC (gN 3) gsN))) (wIf (wNot (wTest (wHook 1 f n df (wCons (wVar 3) (wCons (wSl (wVar 0) wNoPart (wPart (wVar 2))) wNil))))) (wRet (wLst (wCons (wVar 2) wNil))) wNext))
  (wRet (wLst wNil))))
def dw_wrong_at : DFW := fun f n df ds P => t_wrong_at f n df { nx := fun _ => P .non, rt := P } (startE 4 ds)
def t_is_one_of : WS := (wRet (wAndV (wUn (dIsi "str") (wVar 0)) (wBin dIn (wVar 0) (wVar 1))))
def d_is_one_of : DF := fun ds P => t_is_one_of { nx := fun _ => P .non, rt := P } (startE 2 ds)
def l_wrong_askings : WE := (wAndV (wBin dLt (wApp dLen (wCons (wVar 1) wNil)) (wVar 2)) (wCall 2 d_is_one_of (wCons (wVar 0) (wCons (wVar 3) wNil))))
def t_wrong_askings : WS := (wRet (wLamW 2 2 4 dw_wrong_at l_wrong_askings (wPalCons (wVar 1) (wPalEnd [2, 0]))))
def d_wrong_askings : DF := fun ds P => t_wrong_askings { nx := fun _ => P .non, rt := P } (startE 3 ds)
def t_check_askings_of : WS := (wFor (wSq (wCall 3 d_wrong_askings (wCons (wVar 0) (wCons (wVar 1) (wCons (wC (.int 30)) wNil))))) (gN 2) wNever)
def d_check_askings_of : DF := fun ds P => t_check_askings_of { nx := fun _ => P .non, rt := P } (startE 3 ds)
def t_check_asked : WS := (wSeq (wDrop (wCall 1 d_check_shelf (wCons (wVar 0) wNil)))
  (wDrop (wCall 2 d_check_askings_of (wCons (wVar 0) (wCons (wVar 1) wNil)))))
def d_check_asked : DF := fun ds P => t_check_asked { nx := fun _ => P .non, rt := P } (startE 2 ds)
def t_place_in : WS := (wRet (wBin dAdd (wMeth "tuple" dIndexT (wVar 0) (wCons (wVar 1) wNil)) (wC (.int 1))))
def d_place_in : DF := fun ds P => t_place_in { nx := fun _ => P .non, rt := P } (startE 2 ds)
def t_set_ahead : WS := (wSeq (wAsg (wLc (wSq (wVar 0)) (gN 4) (wTest (wBin dNe (wVar 4) (wVar 1))) (wVar 4) [4]) (gN 3))
  (wRet (wTup (wStar (wSl (wVar 3) wNoPart (wPart (wBin dSub (wVar 2) (wC (.int 1))))) (wCons (wVar 1) (wStar (wSl (wVar 3) (wPart (wBin dSub (wVar 2) (wC (.int 1)))) wNoPart) wNil))))))
def d_set_ahead : DF := fun ds P => t_set_ahead { nx := fun _ => P .non, rt := P } (startE 5 ds)
def t_by_steps : WS := (wSeq (wAsg (wC (.int 0)) (gN 2))
  (wSeq (wFor (wSq (wVar 1)) (gN 3) (wSeq (wAsg (wCall 2 d_place_in (wCons (wVar 0) (wCons (wVar 3) wNil))) (gN 4))
  (wPar [2, 0] [.d, .d] (wCons (wBin dAdd (wVar 2) (wVar 4)) (wCons (wCall 3 d_set_ahead (wCons (wVar 0) (wCons (wVar 3) (wCons (wApp dMax2 (wCons (wC (.int 1)) (wCons (wBin dSub (wVar 4) (wC (.int 1))) wNil))) wNil)))) wNil)))))
  (wRet (wTup (wCons (wVar 0) (wCons (wVar 2) wNil))))))
def d_by_steps : DF := fun ds P => t_by_steps { nx := fun _ => P .non, rt := P } (startE 5 ds)
def t_stepped : WS := (wSeq (wDrop (wCall 2 d_check_asked (wCons (wVar 0) (wCons (wVar 1) wNil))))
  (wRet (wBin dIx (wCall 2 d_by_steps (wCons (wVar 0) (wCons (wVar 1) wNil))) (wC (.int 0)))))
def d_stepped : DF := fun ds P => t_stepped { nx := fun _ => P .non, rt := P } (startE 2 ds)
def t_step_cost : WS := (wSeq (wDrop (wCall 2 d_check_asked (wCons (wVar 0) (wCons (wVar 1) wNil))))
  (wRet (wBin dIx (wCall 2 d_by_steps (wCons (wVar 0) (wCons (wVar 1) wNil))) (wC (.int 1)))))
def d_step_cost : DF := fun ds P => t_step_cost { nx := fun _ => P .non, rt := P } (startE 2 ds)
def t__law_right : WS := (wSeq (wFor (wRange1 (wCons (wC (.int 18)) wNil)) (gN 1) (wSeq (wAsg (wCall 2 d__law_shelf (wCons (wVar 0) (wCons (wC (.int 7)) wNil))) (gN 2))
  (wSeq (wPar [3, 4, 5] [.d, .o, .d] (wCons (wCall 3 d__law_asks (wCons (wVar 0) (wCons (wVar 2) (wCons (wC (.int 30)) wNil)))) (wCons (fun ρ Q => (wApp dList (wCons (wVar 2) wNil)) ρ fun d => OwnD d ∧ Q d) (wCons (wC (.int 0)) wNil))))
  (wSeq (wFor (wSq (wVar 3)) (gN 6) (wSeq (wAsg (wMeth "list" dIndexL (wVarO 4) (wCons (wVar 6) wNil)) (gN 7))
  (wSeq (wAsg (wBin dAdd (wBin dAdd (wVar 5) (wVar 7)) (wC (.int 1))) (gN 5))
  (wIf (wTest (wBin dGt (wVar 7) (wC (.int 0)))) (wAsg (wTup (wCons (wBin dIx (wVarO 4) (wVar 7)) (wCons (wBin dIx (wVarO 4) (wBin dSub (wVar 7) (wC (.int 1)))) wNil))) (gT 2 (gsC (gIx 4 (wBin dSub (wVar 7) (wC (.int 1)))) (gsC (gIx 4 (wVar 7)) gsN)))) wNext))))
  (wSeq (wAsg (wApp dTuple (wCons (wVarO 4) wNil)) (gN 8))
  (wSeq (wIf (wTest (wBin dNeS (wApp dRepr (wCons (wLst (wCons (wCall 2 d_stepped (wCons (wVar 2) (wCons (wVar 3) wNil))) (wCons (wCallK 2 [1, 0] d_stepped (wCons (wVar 3) (wCons (wVar 2) wNil))) wNil))) wNil)) (wApp dRepr (wCons (wLst (wCons (wVar 8) (wCons (wVar 8) wNil))) wNil)))) (wRet (wC (.bl false))) wNext)
  (wSeq (wIf (wTest (wBin dNeS (wApp dRepr (wCons (wLst (wCons (wCall 2 d_step_cost (wCons (wVar 2) (wCons (wVar 3) wNil))) (wCons (wCallK 2 [1, 0] d_step_cost (wCons (wVar 3) (wCons (wVar 2) wNil))) wNil))) wNil)) (wApp dRepr (wCons (wLst (wCons (wVar 5) (wCons (wVar 5) wNil))) wNil)))) (wRet (wC (.bl false))) wNext)
  (wIf (wTest (wBin dNe (wCall 2 d_stepped (wCons (wVar 2) (wCons (wBin dRep (wTup (wCons (wBin dIx (wVar 2) (wC (.int 0))) wNil)) (wC (.int 3))) wNil))) (wVar 2))) (wRet (wC (.bl false))) wNext))))))))
  (wRet (wC (.bl true))))
def d__law_right : DF := fun ds P => t__law_right { nx := fun _ => P .non, rt := P } (startE 9 ds)
def t__law_well : WS := (wSeq (wAsg (wIfE (wTest (wBin dLt (wVar 1) (wApp dLen (wCons (wVar 0) wNil)))) (wApp dInt1 (wCons (wBin dIx (wVar 0) (wVar 1)) wNil)) (wBin dAdd (wBin dMul (wC (.int 9403)) (wVar 1)) (wC (.int 2503)))) (gN 2))
  (wSeq (wAsg (wBin dAdd (wC (.int 18013)) (wBin dMul (wC (.int 1709)) (wVar 1))) (gN 3))
  (wSeq (wFor (wSq (wBin dAdd (wSl (wVar 0) wNoPart (wPart (wC (.int 7)))) (wLst (wCons (wVar 2) wNil)))) (gN 4) (wAsg (wBin dMod (wApp dInt1 (wCons (wBin dAdd (wBin dAdd (wBin dMul (wVar 3) (wC (.int 28001))) (wBin dMod (wApp dInt1 (wCons (wVar 4) wNil)) (wC (.int 2147480009)))) (wC (.int 137))) wNil)) (wC (.int 2147480009))) (gN 3)))
  (wRet (wLst (wCons (wIfE (wOr (wTest (wBin dLt (wVar 2) (wC (.int 0)))) (wTest (wBin dGe (wVar 2) (wBin dPow (wC (.int 10)) (wC (.int 15)))))) (wApp dAbs (wCons (wVar 2) wNil)) (wC (.int 0))) (wCons (wVar 3) (wCons (wC (.int 0)) wNil))))))))
def d__law_well : DF := fun ds P => t__law_well { nx := fun _ => P .non, rt := P } (startE 5 ds)
def t__law_turns : WS := (wRet (wLRg1 (wApp dMax2 (wCons (wC (.int 2)) (wCons (wApp dMin2 (wCons (wApp dLen (wCons (wVar 0) wNil)) (wCons (wC (.int 3)) wNil))) wNil)))))
def d__law_turns : DF := fun ds P => t__law_turns { nx := fun _ => P .non, rt := P } (startE 1 ds)
def t_law : WS := (wRet (wApp dAll (wCons (wLc (wSq (wCall 1 d__law_turns (wCons (wVar 0) wNil))) (gN 1) wYes (wWell 2 d__law_well d__law_right (wCons (wVar 0) (wCons (wVar 1) wNil))) [1]) wNil)))
def d_law : DF := fun ds P => t_law { nx := fun _ => P .non, rt := P } (startE 2 ds)
end K55

set_option Elab.async false
set_option linter.all false
set_option maxRecDepth 100000
set_option maxHeartbeats 4000000
namespace K55
open PySem PySem.Spec PyProof.Rows L2 NdefX LamX DL
theorem if_b {b : Bool} {A B : Prop} (h1 : b = true → A) (h2 : b = false → B) : match (generalizing := false) b with
    | true => A
    | false => B := by
  cases b
  · exact h2 rfl
  · exact h1 rfl
theorem if_t {b : Bool} {A B : Prop} (hb : b = true) (h : A) : match (generalizing := false) b with
    | true => A
    | false => B := by
  subst hb; exact h
theorem if_f {b : Bool} {A B : Prop} (hb : b = false) (h : B) : match (generalizing := false) b with
    | true => A
    | false => B := by
  subst hb; exact h
theorem bl_t {b : Bool} {A B : Prop} (hb : b = true) (h : A) : match (generalizing := false) D.bl b with
    | .bl true => A
    | .bl false => B
    | _ => False := by
  subst hb; exact h
theorem bl_f {b : Bool} {A B : Prop} (hb : b = false) (h : B) : match (generalizing := false) D.bl b with
    | .bl true => A
    | .bl false => B
    | _ => False := by
  subst hb; exact h
def Sml (c : Nat) : Prop := 97 ≤ c ∧ c ≤ 122
def WordOk (x : Str) : Prop := x.cps.size ≠ 0 ∧ x.cps.size ≤ 8 ∧ ∀ c ∈ x.cps.toList, Sml c
def NameOk (x : Str) : Prop := WordOk x ∧ ∀ y, D.str y ∈ c_WORDS → x ≠ y
def ShOk (xs : List Str) : Prop := 1 ≤ xs.length ∧ xs.length ≤ 7 ∧ (∀ x ∈ xs, NameOk x) ∧ xs.Nodup
abbrev sh (xs : List Str) : D := .tup (xs.map .str)
theorem at_in {α : Type} {xs : List α} {k : Int} (h0 : 0 ≤ k) (h1 : k < xs.length) : ∃ x, x ∈ xs ∧ atI xs k = some x := by
  have hk : k.toNat < xs.length := by omega
  refine ⟨xs[k.toNat], List.getElem_mem hk, ?_⟩
  unfold atI ixN
  rw [if_pos h0, if_pos h1]
  exact List.getElem?_eq_getElem hk
theorem len_small {x : Str} (h : x.cps.size ≤ 1000) : x.length ≤ sizeLine := by
  show x.cps.size ≤ sizeLine
  rw [sizeLine_eq]; omega
/-! ### the law's own helpers -/
theorem p_law_one_str {x : Str} {P : D → Prop} (hx : x.cps.size ≠ 0) (hl : x.cps.size ≤ 1000) (h : ∀ c ∈ x.cps.toList, P (.str ⟨#[c]⟩)) : d__law_one [.well, .str x] P := by
  have e : x.length = x.cps.size := rfl
  refine ⟨len_small hl, rfl, _, rfl, by omega, by omega, fun k k0 k1 => ?_⟩
  obtain ⟨c, hc, e⟩ := at_in (xs := x.cps.toList) k0 (by rw [Array.length_toList]; exact k1)
  exact ⟨c, len_small hl, e, h c hc⟩
theorem p_law_one_lst {ds : List D} {P : D → Prop} (hx : ds ≠ []) (hl : ds.length ≤ 1000) (h : ∀ d ∈ ds, P d) : d__law_one [.well, .lst ds] P := by
  have := List.length_pos_iff.mpr hx
  refine ⟨rfl, _, rfl, by omega, by omega, fun k k0 k1 => ?_⟩
  obtain ⟨d, hd, e⟩ := at_in (xs := ds) k0 k1
  exact ⟨d, e, h d hd⟩
theorem p_law_one_tup {ds : List D} {P : D → Prop} (hx : ds ≠ []) (hl : ds.length ≤ 1000) (h : ∀ d ∈ ds, P d) : d__law_one [.well, .tup ds] P := by
  have := List.length_pos_iff.mpr hx
  refine ⟨rfl, _, rfl, by omega, by omega, fun k k0 k1 => ?_⟩
  obtain ⟨d, hd, e⟩ := at_in (xs := ds) k0 k1
  exact ⟨d, e, h d hd⟩
theorem p_law_turns {ns : List Int} (hl : ns.length ≤ 63) {P : D → Prop} (h : ∀ m : Nat, m ≤ 3 → P (.lst (rngD 0 m))) : d__law_turns [.scr ns] P := by
  refine ⟨?_, ?_, h _ ?_⟩ <;> (simp only [Int.max_def, Int.min_def]; (repeat' split) <;> omega)
theorem cut_len {α : Type} {xs : List α} {lo hi : Option Int} : (DL.cutD xs lo hi).length ≤ xs.length := by
  unfold DL.cutD
  rw [List.length_take, List.length_drop]
  omega
theorem p_law_well {ns : List Int} {k : Nat} (hl : ns.length ≤ 63) (hk : k ≤ 3) {P : D → Prop} (h : ∀ d, WellD d → P d) : d__law_well [.scr ns, .int (k : Nat)] P := by
  have main : ∀ spot : Int, (wSeq (wAsg (wBin dAdd (wC (.int 18013)) (wBin dMul (wC (.int 1709)) (wVar 1))) (gN 3))
      (wSeq (wFor (wSq (wBin dAdd (wSl (wVar 0) wNoPart (wPart (wC (.int 7)))) (wLst (wCons (wVar 2) wNil)))) (gN 4) (wAsg (wBin dMod (wApp dInt1 (wCons (wBin dAdd (wBin dAdd (wBin dMul (wVar 3) (wC (.int 28001))) (wBin dMod (wApp dInt1 (wCons (wVar 4) wNil)) (wC (.int 2147480009)))) (wC (.int 137))) wNil)) (wC (.int 2147480009))) (gN 3)))
      (wRet (wLst (wCons (wIfE (wOr (wTest (wBin dLt (wVar 2) (wC (.int 0)))) (wTest (wBin dGe (wVar 2) (wBin dPow (wC (.int 10)) (wC (.int 15)))))) (wApp dAbs (wCons (wVar 2) wNil)) (wC (.int 0))) (wCons (wVar 3) (wCons (wC (.int 0)) wNil))))))) { nx := fun _ => P .non, rt := P } [some (.dat (.scr ns)), some (.dat (.int (k : Nat))), some (.dat (.int spot)), none, none] := by
    intro spot
    refine ⟨.inl ⟨by decide, by decide⟩, ?_⟩
    have hc := cut_len (xs := ns) (lo := none) (hi := some 7)
    refine ⟨by show 1 ≤ sizeLine; decide, ?_, ?_⟩
    · rw [List.length_map, sizeLine_eq]; simp; omega
    refine forGo_inv (fun _ ρ => ∃ b u, ρ = [some (.dat (.scr ns)), some (.dat (.int (k : Nat))), some (.dat (.int spot)), some (.dat (.int b)), u] ∧ 0 ≤ b ∧ b < 2147480009) 0 ⟨18013 + 1709 * (k : Nat), _, rfl, by omega, by omega⟩ ?_ ?_
    · rintro i d ρ nx hd ⟨b, u, rfl, b0, b1⟩ hn
      have hi : ∃ z, d = .int z := by
        have := List.mem_of_getElem? hd
        rcases List.mem_append.mp this with q | q
        · obtain ⟨z, _, e⟩ := List.mem_map.mp q; exact ⟨z, e.symm⟩
        · exact ⟨spot, List.mem_singleton.mp q⟩
      obtain ⟨z, rfl⟩ := hi
      refine ⟨.inl ⟨by omega, by omega⟩, ?_⟩
      refine ⟨(by show (0 : Int) < 2147480009; decide), ?_⟩
      refine ⟨(by show (0 : Int) < 2147480009; decide), ?_⟩
      exact hn _ ⟨_, _, rfl, Int.emod_nonneg _ (by decide), Int.emod_lt_of_pos _ (by decide)⟩
    · rintro ρ ⟨b, u, rfl, b0, b1⟩
      have fin : ∀ x : Int, 0 ≤ x → 3 ≤ sizeLine ∧ P (.lst [.int x, .int b, .int 0]) := fun x hx => ⟨by rw [sizeLine_eq]; decide, h _ ⟨x, b, 0, rfl, hx, b0, by omega, by decide⟩⟩
      refine if_b (fun q => ?_) (fun q => ?_)
      · have q : spot < 0 := of_decide_eq_true q
        refine fin _ ?_
        rw [if_pos q]; omega
      · have q : ¬ spot < 0 := of_decide_eq_false q
        refine ⟨⟨by decide, by decide, by decide⟩, ?_⟩
        refine if_b (fun q2 => ?_) (fun q2 => ?_)
        · refine fin _ ?_
          rw [if_neg q]; omega
        · exact fin _ (Int.le_refl _)
  refine if_b (fun q => ?_) (fun q => ?_)
  · have q : ((k : Nat) : Int) < ((ns.length : Nat) : Int) := of_decide_eq_true q
    obtain ⟨z, _, e⟩ := at_in (xs := ns) (k := (k : Nat)) (by omega) q
    exact ⟨z, e, main z⟩
  · exact ⟨.inl ⟨by decide, by decide⟩, main _⟩
/-! ### shelves -/
theorem p_one_of {x : Str} {ws : List Str} {P : D → Prop} (h : P (.bl (decide (x ∈ ws)))) : d_is_one_of [.str x, sh ws] P := by
  refine ⟨"str", true, rfl, rfl, ?_⟩
  refine ⟨⟨rfl, flat_strs⟩, ?_⟩
  show P (.bl (_ : Bool))
  rw [any_strs] 
  exact h
theorem rep_get {x : Str} {d : D} (h : d ∈ (x.cps.toList.map fun c => D.str ⟨#[c]⟩)) : ∃ c ∈ x.cps.toList, d = .str ⟨#[c]⟩ := by
  obtain ⟨c, hc, e⟩ := List.mem_map.mp h
  exact ⟨c, hc, e.symm⟩
theorem small_in {c : Nat} (h : Sml c) : c ∈ ("abcdefghijklmnopqrstuvwxyz" : Str).cps.toList := by
  obtain ⟨h1, h2⟩ := h
  have : ∀ n : Nat, n ≤ 25 → (97 + n) ∈ ("abcdefghijklmnopqrstuvwxyz" : Str).cps.toList := by decide
  have e : c = 97 + (c - 97) := by omega
  rw [e]
  exact this _ (by omega)
theorem bls_rep {n : Nat} : (List.replicate n (D.bl true)) = (List.replicate n true).map .bl := by rw [List.map_replicate]
theorem fm_const {ds : List D} {b : D} : ds.filterMap (fun _ => some b) = List.replicate ds.length b := by
  induction ds with
  | nil => rfl
  | cons d ds ih => rw [List.filterMap_cons_some (by rfl), ih]; rfl
theorem all_rep {n : Nat} : (List.replicate n true).all _root_.id = true := by rw [List.all_eq_true]; intro x hx; rw [List.eq_of_mem_replicate hx]; rfl
theorem all_true {n : Nat} {P : D → Prop} (h : P (.bl true)) : dAll [.lst (List.replicate n (D.bl true))] P := by
  refine ⟨List.replicate n true, bls_rep, ?_⟩
  have e : (List.replicate n true).all _root_.id = true := by rw [List.all_eq_true]; intro x hx; rw [List.eq_of_mem_replicate hx]; rfl
  show P (.bl ((List.replicate n true).all _root_.id))
  rw [e]; exact h
theorem p_is_word {x : Str} {P : D → Prop} (hx : WordOk x) (h : P (.bl true)) : d_is_word [.str x] P := by
  obtain ⟨h1, h2, h3⟩ := hx
  refine ⟨"str", true, rfl, rfl, ?_⟩
  have s0 : SeqAt.shaped (D.str x).py = true := (nic_str (w := 8) (fun c hc => by have := (h3 c hc).2; omega) h2).shaped
  have s1 : SeqAt.shaped (D.str "").py = true := (nic_str (w := 8) (fun c hc => by cases hc) (by decide)).shaped
  refine ⟨⟨rfl, rfl, s0, s1⟩, ?_⟩
  have e : PyData.eqv (D.str x).py (D.str "").py = false := by
    rw [eqv_str]
    refine decide_eq_false fun z => h1 ?_
    rw [z]; rfl
  rw [e]
  refine ⟨⟨True.intro, True.intro⟩, ?_⟩
  refine lcGo_map (f := fun _ => some (.bl true)) (fun d hd K hK => ?_) (by rw [List.length_map, Array.length_toList, sizeLine_eq]; show 0 + x.cps.size ≤ _; omega) ?_
  · obtain ⟨c, hc, rfl⟩ := rep_get hd
    refine ⟨rfl, ?_⟩
    have e2 : decide (c ∈ ("abcdefghijklmnopqrstuvwxyz" : Str).cps.toList) = true := decide_eq_true (small_in (h3 c hc))
    show K (some (.bl (decide (c ∈ ("abcdefghijklmnopqrstuvwxyz" : Str).cps.toList))))
    rw [e2]; exact hK
  · rw [List.nil_append, fm_const]
    exact all_true h
theorem p_is_name {x : Str} {P : D → Prop} (hx : NameOk x) (h : P (.bl true)) : d_is_name [.str x] P := by
  refine ⟨rfl, p_is_word hx.1 ?_⟩
  refine ⟨len_small (by have := hx.1.2.1; omega), ?_⟩
  have e : decide ((x.length : Int) ≤ 8) = true := decide_eq_true (by have := hx.1.2.1; show ((x.cps.size : Nat) : Int) ≤ 8; omega)
  show match D.bl (decide ((x.length : Int) ≤ 8)) with | .bl true => _ | .bl false => _ | _ => _
  rw [e]
  have fl : c_WORDS.all D.flat = true := by decide
  refine ⟨⟨rfl, fl⟩, ?_⟩
  have e2 : (c_WORDS.any fun z => PyData.eqv z.py (D.str x).py) = false := by
    rw [List.any_eq_false]
    intro z hz
    have hs : ∃ y, z = .str y := by
      have : ∀ z ∈ c_WORDS, ∃ y, z = .str y := by
        intro z hz
        simp only [c_WORDS, List.mem_cons, List.not_mem_nil, or_false] at hz
        rcases hz with h | h | h | h | h | h | h | h | h | h | h | h | h | h | h | h | h | h | h | h | h | h | h | h | h | h | h | h | h | h | h | h <;> exact ⟨_, h⟩
      exact this z hz
    obtain ⟨y, rfl⟩ := hs
    rw [eqv_str]
    have := hx.2 y hz
    simp
    exact fun q => this q.symm
  show P (.bl (!_))
  rw [e2]; exact h
theorem map_true {α : Type} {xs : List α} {g : α → D} {f : D → Option D} (h : ∀ x ∈ xs, f (g x) = some (.bl true)) : (xs.map g).filterMap f = List.replicate xs.length (.bl true) := by
  induction xs with
  | nil => rfl
  | cons x xs ih =>
    rw [List.map_cons, List.filterMap_cons_some (h x List.mem_cons_self), ih fun y hy => h y (List.mem_cons_of_mem _ hy)]
    rfl
theorem sz_small {n : Nat} (h : n ≤ 1000) : n ≤ sizeLine := by rw [sizeLine_eq]; omega
theorem ShOk.nic {xs : List Str} (h : ∀ x ∈ xs, NameOk x) {k : Nat} (hl : xs.length ≤ k) : Nic (sh xs) 1 (k * 9) := (nic_tup (k := 0) (w := 8) fun d hd => by
  obtain ⟨x, hx, rfl⟩ := List.mem_map.mp hd
  obtain ⟨⟨h1, h2, h3⟩, _⟩ := h x hx
  exact nic_str (fun c hc => by have := (h3 c hc).2; omega) h2).mono (Nat.le_refl _) (by rw [List.length_map]; exact Nat.mul_le_mul_right _ hl)
theorem count1 {xs : List Str} (nd : xs.Nodup) {x : Str} (hx : x ∈ xs) : ((xs.map D.str).countP fun z => PyData.eqv z.py (D.str x).py) = 1 := by
  have e : ((xs.map D.str).countP fun z => PyData.eqv z.py (D.str x).py) = xs.count x := by
    rw [List.countP_map, List.count]
    refine List.countP_congr fun y _ => ?_
    show (PyData.eqv (D.str y).py (D.str x).py = true) ↔ _
    rw [eqv_str]
    simp
  rw [e]
  rw [nd.count, if_pos hx]
theorem p_is_shelf_form {xs : List Str} {P : D → Prop} (hx : ShOk xs) (h : P (.bl true)) : d_is_shelf_form [sh xs] P := by
  obtain ⟨h1, h2, h3, h4⟩ := hx
  refine ⟨"tuple", true, rfl, rfl, ?_⟩
  have hl : (xs.map D.str).length = xs.length := List.length_map ..
  refine bl_t (decide_eq_true (by rw [hl]; omega)) ?_
  refine if_f (by show (!decide _) = false; rw [decide_eq_true (by rw [hl]; omega)]; rfl) ?_
  refine ⟨⟨True.intro, True.intro⟩, ?_⟩
  refine lcGo_map (f := fun _ => some (.bl true)) (fun d hd K hK => ?_) (by rw [hl]; exact sz_small (by show 0 + _ ≤ _; omega)) ?_
  · obtain ⟨x, hx, rfl⟩ := List.mem_map.mp hd
    exact ⟨rfl, p_is_name (h3 x hx) hK⟩
  rw [List.nil_append, fm_const]
  refine ⟨List.replicate _ true, bls_rep, ?_⟩
  refine if_f (by show (!(List.replicate _ true).all _root_.id) = false; rw [all_rep]; rfl) ?_
  refine ⟨⟨True.intro, True.intro⟩, ?_⟩
  refine lcGo_map (f := fun _ => some (.bl true)) (fun d hd K hK => ?_) (by rw [hl]; exact sz_small (by show 0 + _ ≤ _; omega)) ?_
  · obtain ⟨x, hx, rfl⟩ := List.mem_map.mp hd
    refine ⟨rfl, ⟨rfl, flat_strs⟩, ⟨rfl, rfl, (nic_int (by rw [count1 h4 hx]; decide)).shaped, (nic_int (by decide)).shaped⟩, ?_⟩
    rw [count1 h4 hx]
    show K (some (.bl (PyData.eqv (D.int ((1 : Nat) : Int)).py (D.int 1).py)))
    rw [eqv_int]
    exact hK
  rw [List.nil_append, fm_const]
  exact all_true h
theorem p_check_shelf {xs : List Str} {P : D → Prop} (hx : ShOk xs) (h : P .non) : d_check_shelf [sh xs] P := ⟨rfl, p_is_shelf_form hx h⟩
theorem cut_take {α : Type} {xs : List α} {i : Nat} : DL.cutD xs none (some (i : Nat)) = xs.take i := by
  unfold DL.cutD
  rw [show HT.sIx xs.length 0 none = 0 from rfl, HT.sIx_nat, List.drop_zero, Nat.sub_zero]
  by_cases h : i ≤ xs.length
  · rw [Nat.min_eq_left h]
  · rw [Nat.min_eq_right (by omega), List.take_length, List.take_of_length_le (by omega)]
theorem cut_drop {α : Type} {xs : List α} {i : Nat} : DL.cutD xs (some (i : Nat)) none = xs.drop i := by
  unfold DL.cutD
  rw [show HT.sIx xs.length xs.length none = xs.length from rfl, HT.sIx_nat]
  by_cases h : i ≤ xs.length
  · rw [Nat.min_eq_left h]
    exact List.take_of_length_le (by rw [List.length_drop]; omega)
  · rw [Nat.min_eq_right (by omega), Nat.sub_self, List.take_zero, List.drop_eq_nil_of_le (by omega)]
theorem p_wrong_at {as : List Str} {f : Addr} {df : DF} {P : D → Prop} (hl : as.length ≤ 1000) (hh : ∀ i a, as[i]? = some a → ∀ Q : D → Prop, Q (.bl true) → df [.str a, .tup (DL.cutD (as.map D.str) none (some (i : Nat)))] Q) (h : P (.lst [])) : dw_wrong_at f 2 df [sh as, .fn f] P := by
  refine ⟨"tuple", true, rfl, rfl, ?_⟩
  refine forGo_inv (fun _ ρ => ∃ u v, ρ = [some (.dat (sh as)), some (.dat (.fn f)), u, v]) 0 ⟨_, _, rfl⟩ ?_ ?_
  · rintro i d ρ nx hd ⟨u, v, rfl⟩ hn
    have hi : i < as.length := by
      have := (List.getElem?_eq_some_iff.mp hd).1
      rw [enumD_len, List.length_map] at this
      exact this
    have ha : as[i]? = some as[i] := List.getElem?_eq_getElem hi
    have hd2 := enumD_get (ds := as.map D.str) (i := i) (d := .str as[i]) (by rw [List.getElem?_map, ha]; rfl)
    rw [hd] at hd2
    cases hd2
    refine ⟨rfl, rfl, rfl, rfl, hh i _ ha _ ?_⟩
    exact hn _ ⟨_, _, rfl⟩
  · rintro ρ ⟨u, v, rfl⟩
    exact ⟨sz_small (by decide), h⟩
theorem p_wrong_askings {xs as : List Str} {most : Nat} {P : D → Prop} (hm : as.length ≤ most) (h1 : as.length ≤ 1000) (hs : ∀ a ∈ as, a ∈ xs) (h : P (.lst [])) : d_wrong_askings [sh xs, sh as, .int (most : Nat)] P := by
  have sol : D.solid (sh xs) = true := by
    show D.solidL (xs.map D.str) = true
    clear hs
    induction xs with
    | nil => rfl
    | cons x xs ih => rw [List.map_cons]; unfold D.solidL; rw [ih]; rfl
  refine ⟨rfl, sol, rfl, fun f => ?_⟩
  refine p_wrong_at h1 (fun i a ha Q hQ => ?_) h
  have hi := (List.getElem?_eq_some_iff.mp ha).1
  refine bl_t (decide_eq_true ?_) ?_
  · show ((DL.cutD (as.map D.str) none (some (i : Nat))).length : Int) < (most : Nat)
    rw [cut_take, List.length_take, List.length_map]
    omega
  · refine ⟨rfl, p_one_of ?_⟩
    rw [decide_eq_true (hs a (List.mem_of_getElem? ha))]
    exact hQ
theorem p_check_askings_of {xs as : List Str} {P : D → Prop} (hm : as.length ≤ 30) (hs : ∀ a ∈ as, a ∈ xs) (h : P .non) : d_check_askings_of [sh xs, sh as] P :=
  ⟨rfl, p_wrong_askings (most := 30) hm (by omega) hs h⟩
theorem p_check_asked {xs as : List Str} {P : D → Prop} (hx : ShOk xs) (hm : as.length ≤ 30) (hs : ∀ a ∈ as, a ∈ xs) (h : P .non) : d_check_asked [sh xs, sh as] P :=
  ⟨rfl, p_check_shelf hx ⟨rfl, p_check_askings_of hm hs h⟩⟩
theorem idx_lt {xs : List Str} {x : Str} (h : x ∈ xs) : xs.idxOf x < xs.length := List.idxOf_lt_length_iff.mpr h
theorem idx_get {xs : List Str} {x : Str} (h : x ∈ xs) : xs[xs.idxOf x]? = some x := by
  rw [List.getElem?_eq_getElem (idx_lt h), List.getElem_idxOf (idx_lt h)]
theorem idx_first {xs : List Str} {x : Str} {m : Nat} (h : m < xs.idxOf x) : xs[m]? ≠ some x := by
  induction xs generalizing m with
  | nil => simp
  | cons y ys ih =>
    rw [List.idxOf_cons] at h
    by_cases e : y = x
    · subst e; simp at h
    · have e2 : (y == x) = false := beq_eq_false_iff_ne.mpr e
      rw [e2] at h
      cases m with
      | zero => simp; exact e
      | succ m =>
        rw [List.getElem?_cons_succ]
        exact ih (by simpa using h)
theorem p_place_in {xs : List Str} {x : Str} {P : D → Prop} (hx : x ∈ xs) (h : P (.int ((xs.idxOf x : Nat) + 1))) : d_place_in [sh xs, .str x] P :=
  ⟨rfl, xs, rfl, xs.idxOf x, ⟨idx_get hx, fun m hm => idx_first hm⟩, h⟩
/-- the shelf behind: the book x at the place p (from 1) -/
def setAhead (xs : List Str) (x : Str) (p : Nat) : List Str := (xs.filter (· ≠ x)).take (p - 1) ++ x :: (xs.filter (· ≠ x)).drop (p - 1)
theorem fm_filter {xs : List Str} {x : Str} : ((xs.map D.str).filterMap fun d => match d with | .str y => if y ≠ x then some d else none | _ => none) = (xs.filter (· ≠ x)).map .str := by
  induction xs with
  | nil => rfl
  | cons y ys ih =>
    by_cases h : y = x
    · rw [List.map_cons, List.filterMap_cons_none (by simp [h]), ih, List.filter_cons_of_neg (by simp [h])]
    · rw [List.map_cons, List.filterMap_cons_some (b := .str y) (by simp [h]), ih, List.filter_cons_of_pos (by simp [h]), List.map_cons]
theorem nameNic {x : Str} (h : NameOk x) : Nic (.str x) 0 8 := by
  obtain ⟨⟨h1, h2, h3⟩, _⟩ := h
  exact nic_str (fun c hc => by have := (h3 c hc).2; omega) h2
theorem p_set_ahead {xs : List Str} {x : Str} {p : Nat} {z : Int} {P : D → Prop} (hz : z = (p : Nat)) (hs : ∀ y ∈ xs, NameOk y) (hx : x ∈ xs) (hl : xs.length ≤ 7) (hp : 1 ≤ p) (h : P (sh (setAhead xs x p))) : d_set_ahead [sh xs, .str x, .int z] P := by
  subst hz
  have hf : (xs.filter (· ≠ x)).length ≤ 7 := Nat.le_trans (List.length_filter_le _ _) hl
  refine ⟨⟨True.intro, True.intro⟩, ?_⟩
  refine lcGo_map (f := fun d => match d with | .str y => if y ≠ x then some d else none | _ => none) (fun d hd K hK => ?_) (by rw [List.length_map]; exact sz_small (by show 0 + _ ≤ _; omega)) ?_
  · obtain ⟨y, hy, rfl⟩ := List.mem_map.mp hd
    refine ⟨⟨rfl, rfl, (nameNic (hs y hy)).shaped, (nameNic (hs x hx)).shaped⟩, ?_⟩
    refine if_b (fun q => ?_) (fun q => ?_)
    · rw [eqv_str] at q
      have q2 : y ≠ x := by simpa using q
      have hK2 : K (some (.str y)) := by simpa [q2] using hK
      exact hK2
    · rw [eqv_str] at q
      have q2 : y = x := by simpa using q
      have hK2 : K none := by simpa [q2] using hK
      exact hK2
  · rw [List.nil_append, fm_filter]
    have e : ((p : Nat) : Int) - 1 = ((p - 1 : Nat) : Int) := by omega
    have key : ∀ i : Int, i = ((p - 1 : Nat) : Int) → (DL.cutD ((xs.filter (· ≠ x)).map D.str) none (some i) ++ (.str x :: (DL.cutD ((xs.filter (· ≠ x)).map D.str) (some i) none ++ []))) = (setAhead xs x p).map .str := fun i hi => by
      subst hi
      rw [cut_take, cut_drop, List.append_nil]
      unfold setAhead
      rw [List.map_append, List.map_cons, List.map_take, List.map_drop]
    have e2 := key _ e
    have fin : ∀ ds : List D, ds = (setAhead xs x p).map .str → ds.length ≤ sizeLine ∧ P (.tup ds) := fun ds hd => by
      subst hd
      refine ⟨?_, h⟩
      unfold setAhead
      rw [List.length_map, List.length_append, List.length_cons, List.length_take, List.length_drop]
      exact sz_small (by omega)
    exact fin _ e2
/-- the step rule -/
def stepSh (xs : List Str) (x : Str) : List Str := setAhead xs x (max 1 (xs.idxOf x))
def bySteps : List Str → List Str → Nat → List Str × Nat
  | xs, [], n => (xs, n)
  | xs, a :: as, n => bySteps (stepSh xs a) as (n + xs.idxOf a + 1)
theorem filter_len {xs : List Str} {x : Str} (nd : xs.Nodup) (hx : x ∈ xs) : (xs.filter (· ≠ x)).length + 1 = xs.length := by
  have := List.length_eq_countP_add_countP (· ≠ x) (l := xs)
  have e : xs.countP (fun a => decide ¬decide (a ≠ x) = true) = xs.count x := by
    rw [List.count]
    exact List.countP_congr fun y _ => by simp
  rw [← List.countP_eq_length_filter]
  rw [e, nd.count, if_pos hx] at this
  omega
theorem setAhead_perm {xs : List Str} {x : Str} {p : Nat} (nd : xs.Nodup) (hx : x ∈ xs) : (setAhead xs x p).Perm xs := by
  unfold setAhead
  refine (List.perm_middle).trans ?_
  rw [List.take_append_drop]
  have h2 : (x :: xs.filter (· ≠ x)).Perm (x :: xs.erase x) := by
    rw [nd.erase_eq_filter]
    have e : (fun y => decide (y ≠ x)) = (fun y => y != x) := funext fun y => by
      by_cases q : y = x
      · subst q; simp
      · simp [q]
    rw [e]
  exact h2.trans (List.perm_cons_erase hx).symm
theorem ShOk.perm {xs ys : List Str} (h : ShOk xs) (p : ys.Perm xs) : ShOk ys := by
  obtain ⟨h1, h2, h3, h4⟩ := h
  have hl := p.length_eq
  exact ⟨by omega, by omega, fun x hx => h3 x (p.mem_iff.mp hx), p.nodup_iff.mpr h4⟩
theorem ShOk.step {xs : List Str} {x : Str} (h : ShOk xs) (hx : x ∈ xs) : ShOk (stepSh xs x) := h.perm (setAhead_perm h.2.2.2 hx)
theorem step_mem {xs : List Str} {x y : Str} (h : ShOk xs) (hx : x ∈ xs) : y ∈ stepSh xs x ↔ y ∈ xs := (setAhead_perm h.2.2.2 hx).mem_iff
theorem p_by_steps {xs as : List Str} {P : D → Prop} (hx : ShOk xs) (hs : ∀ a ∈ as, a ∈ xs) (h : P (.tup [sh (bySteps xs as 0).1, .int ((bySteps xs as 0).2 : Nat)])) : d_by_steps [sh xs, sh as] P := by
  refine forGo_inv (fun i ρ => ∃ ys n u v, ρ = [some (.dat (sh ys)), some (.dat (sh as)), some (.dat (.int (n : Nat))), u, v] ∧ ShOk ys ∧ (∀ a, a ∈ ys ↔ a ∈ xs) ∧ bySteps ys (as.drop i) n = bySteps xs as 0) 0 ⟨xs, 0, _, _, rfl, hx, fun _ => Iff.rfl, by simp⟩ ?_ ?_
  · rintro i d ρ nx hd ⟨ys, n, u, v, rfl, ok, hm, hb⟩ hn
    rw [Nat.zero_add] at hb
    obtain ⟨a, ha, rfl⟩ : ∃ a, as[i]? = some a ∧ d = .str a := by
      have hd : (as.map D.str)[i]? = some d := hd
      rw [List.getElem?_map] at hd
      cases e : as[i]? with
      | none => rw [e] at hd; cases hd
      | some a => rw [e] at hd; cases hd; exact ⟨a, rfl, rfl⟩
    have hay : a ∈ ys := (hm a).mpr (hs a (List.mem_of_getElem? ha))
    refine ⟨rfl, p_place_in hay ?_⟩
    refine ⟨rfl, ?_⟩
    refine p_set_ahead (p := max 1 (ys.idxOf a)) ?_ ok.2.2.1 hay ok.2.1 (by omega) ?_
    · show (if (1 : Int) < ((ys.idxOf a : Nat) : Int) + 1 - 1 then ((ys.idxOf a : Nat) : Int) + 1 - 1 else 1) = _
      split <;> omega
    refine ⟨rfl, hn _ ⟨stepSh ys a, n + ys.idxOf a + 1, some (.dat (.str a)), some (.dat (.int ((ys.idxOf a : Nat) + 1))), ?_, ok.step hay, fun b => (step_mem ok hay).trans (hm b), ?_⟩⟩
    · have e : ((n : Nat) + ((ys.idxOf a : Nat) + 1 : Int)) = ((n + ys.idxOf a + 1 : Nat) : Int) := by omega
      rw [← e]
      rfl
    · have hdrop : as.drop i = a :: as.drop (i + 1) := by
        obtain ⟨hl, q⟩ := List.getElem?_eq_some_iff.mp ha
        rw [← q]; exact List.drop_eq_getElem_cons hl
      rw [hdrop] at hb
      rw [Nat.zero_add]
      exact hb
  · rintro ρ ⟨ys, n, u, v, rfl, ok, hm, hb⟩
    refine ⟨sz_small (by show 2 ≤ 1000; decide), ?_⟩
    rw [Nat.zero_add, List.length_map, List.drop_length] at hb
    have e : (ys, n) = bySteps xs as 0 := hb
    rw [← e] at h
    exact h
end K55

set_option Elab.async false
set_option linter.all false
set_option maxRecDepth 100000
set_option maxHeartbeats 4000000
namespace K55
open PySem PySem.Spec PyProof.Rows L2 NdefX LamX DL
theorem p_stepped {xs as : List Str} {P : D → Prop} (hx : ShOk xs) (hm : as.length ≤ 30) (hs : ∀ a ∈ as, a ∈ xs) (h : P (sh (bySteps xs as 0).1)) : d_stepped [sh xs, sh as] P :=
  ⟨rfl, p_check_asked hx hm hs ⟨rfl, p_by_steps hx hs ⟨_, rfl, h⟩⟩⟩
theorem p_step_cost {xs as : List Str} {P : D → Prop} (hx : ShOk xs) (hm : as.length ≤ 30) (hs : ∀ a ∈ as, a ∈ xs) (h : P (.int ((bySteps xs as 0).2 : Nat))) : d_step_cost [sh xs, sh as] P :=
  ⟨rfl, p_check_asked hx hm hs ⟨rfl, p_by_steps hx hs ⟨_, rfl, h⟩⟩⟩
theorem join_signs (cs : List Nat) : (Txt.join ("" : Str) (cs.map fun c => (⟨#[c]⟩ : Str))).cps.toList = cs := by
  have e : (cs.map fun c => (⟨#[c]⟩ : Str)) = (cs.map fun c => [c]).map SX.S := by rw [List.map_map]; rfl
  have e0 : ("" : Str) = SX.S [] := rfl
  have j : ∀ l : List Nat, TL.joinL [] (l.map fun c => [c]) = l := by
    intro l
    induction l with
    | nil => rfl
    | cons a l ih =>
      cases l with
      | nil => rfl
      | cons b l => 
        show [a] ++ ([] ++ TL.joinL [] ((b :: l).map fun c => [c])) = _
        rw [ih]; rfl
  rw [e, e0, SX.join_S, j]
theorem length_sub {α : Type} [DecidableEq α] : ∀ {xs ys : List α}, xs.Nodup → (∀ x ∈ xs, x ∈ ys) → xs.length ≤ ys.length
  | [], _, _, _ => Nat.zero_le _
  | x :: xs, ys, nd, h => by
    have hx := h x List.mem_cons_self
    have ih := length_sub (xs := xs) (ys := ys.erase x) (List.nodup_cons.mp nd).2 fun y hy => by
      have hy2 := h y (List.mem_cons_of_mem _ hy)
      refine (List.mem_erase_of_ne fun e => ?_).mpr hy2
      subst e
      exact (List.nodup_cons.mp nd).1 hy
    rw [List.length_erase_of_mem hx] at ih
    have := List.length_pos_of_mem hx
    rw [List.length_cons]
    omega
abbrev LTS : Str := "abcdefghijklmnopqrstuvwxyz"
theorem lts : LTS.cps.toList = (List.range 26).map (97 + ·) := by decide
theorem lts_sml {c : Nat} (h : c ∈ LTS.cps.toList) : Sml c := by
  rw [lts] at h
  obtain ⟨i, hi, rfl⟩ := List.mem_map.mp h
  have := List.mem_range.mp hi
  exact ⟨by omega, by omega⟩
abbrev w6 (x : Str) : Str := cutS x none (some 6)
theorem w6_list (x : Str) : (w6 x).cps.toList = x.cps.toList.take 6 := by
  unfold w6 cutS
  rw [show HT.sIx x.length 0 none = 0 from rfl, show HT.sIx x.length x.length (some 6) = min 6 x.length from rfl, List.drop_zero, Nat.sub_zero, List.toList_toArray]
  have e : x.length = x.cps.toList.length := by rw [Array.length_toList]; rfl
  by_cases h : 6 ≤ x.length
  · rw [Nat.min_eq_left h]
  · rw [Nat.min_eq_right (by omega), e, List.take_length, List.take_of_length_le (by omega)]
/-- the words made of a word -/
def mk (x : Str) (e : Str) (c : Nat) : Str := w6 x ++ ⟨#[c]⟩ ++ e
theorem app_list (x y : Str) : (x ++ y).cps.toList = x.cps.toList ++ y.cps.toList := by
  show (x.cps ++ y.cps).toList = _
  rw [Array.toList_append]
theorem mk_list (x e : Str) (c : Nat) : (mk x e c).cps.toList = x.cps.toList.take 6 ++ [c] ++ e.cps.toList := by
  unfold mk
  rw [app_list, app_list, w6_list]
def somes (x : Str) : List Str := x :: (LTS.cps.toList.map (mk x "q") ++ LTS.cps.toList.map (mk x "z"))
theorem str_ext {x y : Str} (h : x.cps.toList = y.cps.toList) : x = y := by
  obtain ⟨⟨a⟩⟩ := x; obtain ⟨⟨b⟩⟩ := y
  have h : a = b := h
  rw [h]
theorem mk_inj {x e : Str} {c c' : Nat} (h : mk x e c = mk x e c') : c = c' := by
  have := congrArg (fun z : Str => z.cps.toList) h
  simp only [mk_list] at this
  simpa using this
theorem mk_last (x e : Str) (c d : Nat) (he : e.cps.toList = [d]) : (mk x e c).cps.toList.getLast? = some d := by
  rw [mk_list, he, List.getLast?_append]
  rfl
theorem mk_qz {x : Str} {c c' : Nat} : mk x "q" c ≠ mk x "z" c' := fun h => by
  have h1 := mk_last x "q" c 113 rfl
  have h2 := mk_last x "z" c' 122 rfl
  rw [h, h2] at h1
  cases h1
theorem somes_nodup (x : Str) : (LTS.cps.toList.map (mk x "q") ++ LTS.cps.toList.map (mk x "z")).Nodup := by
  have nd : LTS.cps.toList.Nodup := by decide
  have inj : ∀ e, (LTS.cps.toList.map (mk x e)).Nodup := fun e => by
    generalize LTS.cps.toList = l at nd
    induction l with
    | nil => exact List.Pairwise.nil
    | cons c l ih =>
      rw [List.map_cons, List.nodup_cons]
      obtain ⟨h1, h2⟩ := List.nodup_cons.mp nd
      refine ⟨fun hm => ?_, ih h2⟩
      obtain ⟨c', hc, e⟩ := List.mem_map.mp hm
      exact h1 (mk_inj e ▸ hc)
  refine List.nodup_append.mpr ⟨inj _, inj _, fun a ha b hb e => ?_⟩
  obtain ⟨c, _, rfl⟩ := List.mem_map.mp ha
  obtain ⟨c', _, rfl⟩ := List.mem_map.mp hb
  exact mk_qz e
theorem somes_ok {x : Str} (hx : WordOk x) : ∀ y ∈ somes x, WordOk y := by
  obtain ⟨h1, h2, h3⟩ := hx
  have key : ∀ (e : Str) (d : Nat), e.cps.toList = [d] → Sml d → ∀ c, Sml c → WordOk (mk x e c) := fun e d he hs c hc => by
    have e1 : (mk x e c).cps.size = (mk x e c).cps.toList.length := Array.length_toList.symm
    have hl : (mk x e c).cps.toList.length = min 6 x.cps.toList.length + 1 + 1 := by
      rw [mk_list, he, List.length_append, List.length_append, List.length_take]
      rfl
    rw [Array.length_toList (xs := x.cps)] at hl
    refine ⟨by omega, by omega, fun d2 hd => ?_⟩
    rw [mk_list, he] at hd
    rcases List.mem_append.mp hd with hd | hd
    · rcases List.mem_append.mp hd with hd | hd
      · exact h3 d2 (List.mem_of_mem_take hd)
      · rw [List.mem_singleton.mp hd]; exact hc
    · rw [List.mem_singleton.mp hd]; exact hs
  intro y hy
  rcases List.mem_cons.mp hy with rfl | hy
  · exact ⟨h1, h2, h3⟩
  · rcases List.mem_append.mp hy with hy | hy
    · obtain ⟨c, hc, rfl⟩ := List.mem_map.mp hy
      exact key "q" 113 rfl ⟨by decide, by decide⟩ c (lts_sml hc)
    · obtain ⟨c, hc, rfl⟩ := List.mem_map.mp hy
      exact key "z" 122 rfl ⟨by decide, by decide⟩ c (lts_sml hc)
end K55

set_option Elab.async false
set_option linter.all false
set_option maxRecDepth 100000
set_option maxHeartbeats 4000000
namespace K55
open PySem PySem.Spec PyProof.Rows L2 NdefX LamX DL
def takens : List Str := ((["ahead", "all", "as", "ask", "at", "behind", "book", "by", "code", "cost", "end", "first", "fixed", "front", "in", "is", "last", "leave", "never", "next", "none", "of", "order", "place", "put", "shelf", "step", "take", "times", "to", "undo", "with", "done", "yes", "no", "back"]) : List String).map Str.ofString
theorem rngD_len {lo : Int} {n : Nat} : (rngD lo n).length = n := by unfold rngD; simp
theorem signs_of : ∀ {ys : List D}, (∀ y ∈ ys, ∃ c, Sml c ∧ y = .str ⟨#[c]⟩) → ∃ cs : List Nat, (∀ c ∈ cs, Sml c) ∧ ys = cs.map fun c => .str ⟨#[c]⟩
  | [], _ => ⟨[], fun _ h => absurd h (by simp), rfl⟩
  | y :: ys, h => by
    obtain ⟨c, hc, rfl⟩ := h y List.mem_cons_self
    obtain ⟨cs, h1, rfl⟩ := signs_of fun z hz => h z (List.mem_cons_of_mem _ hz)
    exact ⟨c :: cs, fun d hd => (List.mem_cons.mp hd).elim (fun e => by rw [e]; exact hc) (h1 d), rfl⟩
theorem sum1 (cs : List Nat) : ((cs.map fun c => (⟨#[c]⟩ : Str)).map (·.length)).sum = cs.length := by
  induction cs with
  | nil => rfl
  | cons c cs ih =>
    rw [List.map_cons, List.map_cons, List.sum_cons, ih, List.length_cons]
    show 1 + _ = _
    omega
theorem word_of {cs : List Nat} (h1 : cs.length ≠ 0) (h2 : cs.length ≤ 8) (h3 : ∀ c ∈ cs, Sml c) : WordOk (Txt.join ("" : Str) (cs.map fun c => (⟨#[c]⟩ : Str))) := by
  have e := join_signs cs
  have e1 : (Txt.join ("" : Str) (cs.map fun c => (⟨#[c]⟩ : Str))).cps.size = cs.length := by rw [← Array.length_toList, e]
  exact ⟨by omega, by omega, fun c hc => h3 c (by rw [← e]; exact hc)⟩
theorem w6_len {x : Str} (h : x.cps.size ≤ 8) : (w6 x).length ≤ 8 := by
  show (w6 x).cps.size ≤ 8
  rw [← Array.length_toList, w6_list, List.length_take, Array.length_toList]
  omega
/-- the words made of a word, by one end -/
theorem p_made {x e : Str} {a0 a1 a3 a4 a5 a7 : Option DL.Slot} {Q : D → Prop} (hx : x.cps.size ≤ 8) (he : e.cps.size = 1)
    (h : Q (.lst ((LTS.cps.toList.map (mk x e)).map .str))) : wLc (wStr (wVar 2)) (gN 9) wYes (wBin dAdd (wBin dAdd (wSl (wVar 6) wNoPart (wPart (wC (.int 6)))) (wVar 9)) (wC (.str e))) [9] [a0, a1, some (.dat (.str LTS)), a3, a4, a5, some (.dat (.str x)), a7, none, none, none] Q := by
  refine ⟨⟨True.intro, True.intro⟩, ?_⟩
  refine lcGo_map (f := fun d => match d with | .str z => some (.str (w6 x ++ z ++ e)) | _ => none) (fun d hd K hK => ?_) (by rw [List.length_map, lts]; exact sz_small (by show 0 + _ ≤ 1000; rw [List.length_map, List.length_range]; decide)) ?_
  · obtain ⟨c, hc, rfl⟩ := rep_get hd
    have l6 := w6_len hx
    refine ⟨len_small (by omega), sz_small ?_, sz_small ?_, hK⟩
    · show (w6 x).length + 1 ≤ 1000; omega
    · have e1 : (cutS x none (some 6) ++ (⟨#[c]⟩ : Str)).length = (w6 x).length + 1 := by
        show (cutS x none (some 6) ++ (⟨#[c]⟩ : Str)).cps.size = _
        rw [← Array.length_toList, app_list, List.length_append, Array.length_toList]
        rfl
      rw [e1]
      show _ + e.cps.size ≤ _
      omega
  · rw [List.nil_append]
    have e2 : ((LTS.cps.toList.map fun c => D.str ⟨#[c]⟩).filterMap fun d => match d with | .str z => some (.str (w6 x ++ z ++ e)) | _ => none) = (LTS.cps.toList.map (mk x e)).map D.str := by
      generalize LTS.cps.toList = l
      induction l with
      | nil => rfl
      | cons c l ih => rw [List.map_cons, List.filterMap_cons_some (by rfl), ih]; rfl
    rw [e2]
    exact h
end K55

set_option Elab.async false
set_option linter.all false
set_option maxRecDepth 100000
set_option maxHeartbeats 4000000
namespace K55
open PySem PySem.Spec PyProof.Rows L2 NdefX LamX DL
theorem takens_words : ∀ y, D.str y ∈ c_WORDS → y ∈ takens := by
  intro y hy
  have : ∀ d ∈ c_WORDS, ∃ z ∈ takens, d = .str z := by
    intro d hd
    simp only [c_WORDS, List.mem_cons, List.not_mem_nil, or_false] at hd
    rcases hd with h | h | h | h | h | h | h | h | h | h | h | h | h | h | h | h | h | h | h | h | h | h | h | h | h | h | h | h | h | h | h | h <;> subst h <;> exact ⟨_, List.mem_map.mpr ⟨_, by decide, rfl⟩, rfl⟩
  obtain ⟨z, hz, e⟩ := this _ hy
  cases e
  exact hz
/-- some made word is new -/
theorem new_one {found : List Str} {x : Str} (hf : found.length ≤ 10) : (somes x).filter (fun y => decide (y ∉ found ++ takens)) ≠ [] := fun h => by
  have all : ∀ y ∈ somes x, y ∈ found ++ takens := fun y hy => by
    have := List.filter_eq_nil_iff.mp h y hy
    exact Decidable.byContradiction fun z => this (decide_eq_true z)
  have nd := somes_nodup x
  have hl := length_sub nd fun y hy => all y (List.mem_cons_of_mem _ hy)
  rw [List.length_append, List.length_append, List.length_map, List.length_map, lts, List.length_map, List.length_range] at hl
  have : takens.length = 36 := rfl
  omega
theorem fm_notin {zs ys : List Str} : ((zs.map D.str).filterMap fun d => match d with | .str y => if y ∈ ys then none else some d | _ => none) = (zs.filter (fun y => decide (y ∉ ys))).map .str := by
  induction zs with
  | nil => rfl
  | cons z zs ih =>
    by_cases h : z ∈ ys
    · rw [List.map_cons, List.filterMap_cons_none (by simp [h]), ih, List.filter_cons_of_neg (by simp [h])]
    · rw [List.map_cons, List.filterMap_cons_some (b := .str z) (by simp [h]), ih, List.filter_cons_of_pos (by simp [h]), List.map_cons]
/-- found.append([each for each in some if each not in found + taken][0]) -/
theorem p_app {found zs : List Str} {a0 a1 a2 a5 a6 : Option DL.Slot} {E : WEnds} (hf : found.length ≤ 10) (hz : zs.length ≤ 100) (hne : zs.filter (fun y => decide (y ∉ found ++ takens)) ≠ [])
    (h : ∀ y ∈ zs, y ∉ found → y ∉ takens → E.nx [a0, a1, a2, some (.own (.lst ((found ++ [y]).map .str))), some (.dat (.lst (takens.map .str))), a5, a6, some (.dat (.lst (zs.map .str))), none, none, none]) :
    wMuT 3 "list" dAppend (wCons (wBin dIx (wLc (wSq (wVar 7)) (gN 10) (wTest (wBin dNotIn (wVar 10) (wBin dAdd (wVarO 3) (wVar 4)))) (wVar 10) [10]) (wC (.int 0))) wNil) E [a0, a1, a2, some (.own (.lst (found.map .str))), some (.dat (.lst (takens.map .str))), a5, a6, some (.dat (.lst (zs.map .str))), none, none, none] := by
  refine ⟨(rfl : "list" = "list"), ?_⟩
  refine ⟨⟨True.intro, True.intro⟩, ?_⟩
  refine lcGo_map (f := fun d => match d with | .str y => if y ∈ found ++ takens then none else some d | _ => none) (fun d hd K hK => ?_) (by rw [List.length_map]; exact sz_small (by show 0 + _ ≤ 1000; omega)) ?_
  · obtain ⟨y, hy, rfl⟩ := List.mem_map.mp hd
    have ht : takens.length = 36 := rfl
    refine ⟨by rw [List.length_map, List.length_map]; exact sz_small (by omega), ⟨rfl, by rw [← List.map_append]; exact flat_strs⟩, ?_⟩
    have e : ((found.map D.str ++ takens.map D.str).any fun z => PyData.eqv z.py (D.str y).py) = decide (y ∈ found ++ takens) := by rw [← List.map_append, any_strs]
    refine if_b (fun q => ?_) (fun q => ?_)
    · have q2 : y ∉ found ++ takens := by
        have q3 : (!((found.map D.str ++ takens.map D.str).any fun z => PyData.eqv z.py (D.str y).py)) = true := q
        rw [e] at q3
        simpa using q3
      have hK2 : K (some (.str y)) := by simpa [q2] using hK
      exact hK2
    · have q2 : y ∈ found ++ takens := by
        have q3 : (!((found.map D.str ++ takens.map D.str).any fun z => PyData.eqv z.py (D.str y).py)) = false := q
        rw [e] at q3
        exact of_decide_eq_true (by cases hh : decide (y ∈ found ++ takens) with
          | true => rfl
          | false => rw [hh] at q3; cases q3)
      have hK2 : K none := by simpa [q2] using hK
      exact hK2
  · rw [List.nil_append, fm_notin]
    cases q : zs.filter (fun y => decide (y ∉ found ++ takens)) with
    | nil => exact absurd q hne
    | cons y ys =>
      have hy : y ∈ zs.filter (fun y => decide (y ∉ found ++ takens)) := by rw [q]; exact List.mem_cons_self
      obtain ⟨hy1, hy2⟩ := List.mem_filter.mp hy
      have hy3 : y ∉ found ++ takens := of_decide_eq_true hy2
      have hx := h y hy1 (fun z => hy3 (List.mem_append_left _ z)) (fun z => hy3 (List.mem_append_right _ z))
      rw [List.map_append] at hx
      have at0 : atI ((y :: ys).map D.str) 0 = some (.str y) := by
        unfold atI ixN
        rw [if_pos (by decide), if_pos (by rw [List.map_cons, List.length_cons]; omega)]
        rfl
      refine ⟨_, at0, ?_⟩
      exact ⟨by rw [List.length_map, sizeLine_eq]; omega, .lst, hx⟩
theorem p_law_words {n : Nat} (hn : n ≤ 7) {P : D → Prop} (h : ∀ found : List Str, found.length = n → (∀ x ∈ found, NameOk x) → found.Nodup → P (.lst (found.map .str))) : d__law_words [.well, .int (n : Nat)] P := by
  refine ⟨sz_small (by show 0 ≤ 1000; decide), .lst, rfl, ?_⟩
  refine ⟨sz_small (by show 13 ≤ 1000; decide), ?_⟩
  refine ⟨sz_small (by show 1 ≤ 1000; decide), sz_small (by show 14 ≤ 1000; decide), ?_⟩
  refine ⟨sz_small (by show 12 ≤ 1000; decide), sz_small (by show 26 ≤ 1000; decide), ?_⟩
  refine ⟨sz_small (by show 1 ≤ 1000; decide), sz_small (by show 27 ≤ 1000; decide), ?_⟩
  refine ⟨sz_small (by show 9 ≤ 1000; decide), sz_small (by show 36 ≤ 1000; decide), ?_⟩
  refine ⟨⟨by omega, by omega⟩, ?_⟩
  refine forGo_inv (fun i ρ => ∃ found u5 u6 u7, ρ = [some (.dat .well), some (.dat (.int (n : Nat))), some (.dat (.str LTS)), some (.own (.lst (found.map .str))), some (.dat (.lst (takens.map .str))), u5, u6, u7, none, none, none] ∧ found.length = i ∧ (∀ x ∈ found, NameOk x) ∧ found.Nodup) 0 ⟨[], none, none, none, rfl, rfl, fun _ z => absurd z (by simp), List.Pairwise.nil⟩ ?_ ?_
  · rintro i d ρ nx hd ⟨found, u5, u6, u7, rfl, hfl, hok, nd⟩ hnx
    have hi : i < n := by
      have := (List.getElem?_eq_some_iff.mp hd).1
      rw [rngD_len] at this
      omega
    refine ⟨(rfl : "str" = "str"), ⟨True.intro, True.intro⟩, sz_small (by show 3 ≤ 1000; decide), rfl, p_law_one_lst (by simp) (by show 3 ≤ 1000; decide) fun d2 hd2 => ?_⟩
    obtain ⟨m, rfl, m0, m1⟩ : ∃ m : Int, d2 = .int m ∧ 2 ≤ m ∧ m ≤ 8 := by
      simp only [List.mem_cons, List.not_mem_nil, or_false] at hd2
      rcases hd2 with e | e | e <;> subst e <;> exact ⟨_, rfl, by decide, by decide⟩
    refine ⟨rfl, m, rfl, by omega, by omega, fun k k0 k1 => ?_⟩
    refine ⟨⟨by omega, by omega⟩, ?_⟩
    refine lcGo_any (S := fun d => ∃ c, Sml c ∧ d = .str ⟨#[c]⟩) (fun d3 hd3 K hK => ⟨rfl, p_law_one_str (by decide) (by decide) fun c hc => hK _ ⟨c, lts_sml hc, rfl⟩⟩) (by rw [rngD_len]; exact sz_small (by show 0 + _ ≤ 1000; omega)) fun ys hl hS => ?_
    rw [rngD_len] at hl
    obtain ⟨cs, hc, rfl⟩ := signs_of hS
    rw [List.length_map] at hl
    rw [List.nil_append]
    refine ⟨cs.map fun c => ⟨#[c]⟩, by rw [List.map_map]; rfl, by rw [sum1, List.length_map]; show cs.length + cs.length * 0 ≤ _; omega, ?_⟩
    have hw := word_of (cs := cs) (by omega) (by omega) hc
    generalize Txt.join ("" : Str) (cs.map fun c => (⟨#[c]⟩ : Str)) = word at hw
    refine ⟨sz_small (by show 1 ≤ 1000; decide), ?_⟩
    refine p_made hw.2.1 rfl ?_
    have l26 : ∀ e, ((LTS.cps.toList.map (mk word e)).map D.str).length = 26 := fun e => by rw [List.length_map, List.length_map, lts, List.length_map, List.length_range]
    refine ⟨by rw [l26]; exact sz_small (by show 1 + 26 ≤ 1000; decide), ?_⟩
    refine p_made hw.2.1 rfl ?_
    refine ⟨by rw [List.length_append, l26, l26]; exact sz_small (by show 1 + 26 + 26 ≤ 1000; decide), ?_⟩
    have es : (([D.str word] ++ (LTS.cps.toList.map (mk word "q")).map D.str) ++ (LTS.cps.toList.map (mk word "z")).map D.str) = (somes word).map D.str := by
      unfold somes
      rw [List.map_cons, List.map_append, List.append_assoc]
      rfl
    have fin : ∀ sd : List D, sd = (somes word).map D.str → wMuT 3 "list" dAppend (wCons (wBin dIx (wLc (wSq (wVar 7)) (gN 10) (wTest (wBin dNotIn (wVar 10) (wBin dAdd (wVarO 3) (wVar 4)))) (wVar 10) [10]) (wC (.int 0))) wNil) { nx := nx, ct := nx, bk := fun ρ => wRet (wVarO 3) { nx := fun _ => P .non, rt := P } ρ, rt := P }
        [some (.dat .well), some (.dat (.int (n : Nat))), some (.dat (.str LTS)), some (.own (.lst (found.map .str))), some (.dat (.lst (takens.map .str))), some (.dat d), some (.dat (.str word)), some (.dat (.lst sd)), none, none, none] := fun sd hsd => by
      subst hsd
      have hlen : (somes word).length = 53 := by
        unfold somes
        rw [List.length_cons, List.length_append, List.length_map, List.length_map, lts, List.length_map, List.length_range]
      refine p_app (by omega) (by omega) (new_one (by omega)) fun y hy hy1 hy2 => ?_
      refine hnx _ ⟨found ++ [y], _, _, _, rfl, by rw [List.length_append, hfl, Nat.zero_add]; rfl, fun z hz => ?_, ?_⟩
      · rcases List.mem_append.mp hz with hz | hz
        · exact hok z hz
        · rw [List.mem_singleton.mp hz]
          exact ⟨somes_ok hw y hy, fun w hw2 e => hy2 (by rw [e]; exact takens_words w hw2)⟩
      · refine List.nodup_append.mpr ⟨nd, List.nodup_cons.mpr ⟨by simp, List.Pairwise.nil⟩, fun a ha b hb e => ?_⟩
        rw [List.mem_singleton.mp hb] at e
        exact hy1 (by rw [← e]; exact ha)
    exact fin _ es
  · rintro ρ ⟨found, u5, u6, u7, rfl, hfl, hok, nd⟩
    rw [rngD_len] at hfl
    exact h found (by omega) hok nd
end K55

set_option Elab.async false
set_option linter.all false
set_option maxRecDepth 100000
set_option maxHeartbeats 4000000
namespace K55
open PySem PySem.Spec PyProof.Rows L2 NdefX LamX DL
theorem p_law_words' {n : Nat} {z : Int} (hz : z = (n : Nat)) (hn : n ≤ 7) {P : D → Prop} (h : ∀ found : List Str, found.length = n → (∀ x ∈ found, NameOk x) → found.Nodup → P (.lst (found.map .str))) : d__law_words [.well, .int z] P := by
  subst hz; exact p_law_words hn h
theorem p_law_shelf {m : Int} (m0 : 1 ≤ m) (m1 : m ≤ 7) {P : D → Prop} (h : ∀ xs : List Str, ShOk xs → P (sh xs)) : d__law_shelf [.well, .int m] P := by
  refine ⟨rfl, m, rfl, by omega, by omega, fun k k0 k1 => ⟨rfl, p_law_words' (n := (1 + k).toNat) (by omega) (by omega) fun found hl hok nd => ?_⟩⟩
  exact h found ⟨by omega, by omega, hok, nd⟩
theorem p_law_asks {xs : List Str} {m : Int} (hx : ShOk xs) (m0 : 0 ≤ m) (m1 : m ≤ 30) {P : D → Prop} (h : ∀ as : List Str, as.length ≤ 30 → (∀ a ∈ as, a ∈ xs) → P (sh as)) : d__law_asks [.well, sh xs, .int m] P := by
  obtain ⟨h1, h2, h3, h4⟩ := hx
  have rest : ∀ ys : List Str, ys ≠ [] → ys.length ≤ 7 → (∀ y ∈ ys, y ∈ xs) → (wRet (wApp dTuple (wCons (wLc (wRange1 (wCons (wCall 2 d_dip (wCons (wVar 0) (wCons (wBin dAdd (wVar 2) (wC (.int 1))) wNil))) wNil)) (gN 4) wYes (wCall 2 d__law_one (wCons (wVar 0) (wCons (wVar 3) wNil))) [4]) wNil))) { nx := fun _ => P .non, rt := P } [some (.dat .well), some (.dat (sh xs)), some (.dat (.int m)), some (.dat (sh ys)), none] := fun ys hne hl hy => by
    refine ⟨⟨True.intro, True.intro⟩, rfl, m + 1, rfl, by omega, by omega, fun k k0 k1 => ⟨⟨by omega, by omega⟩, ?_⟩⟩
    refine lcGo_any (S := fun d => ∃ y ∈ ys, d = .str y) (fun d hd K hK => ⟨rfl, p_law_one_tup (by intro z; exact hne (List.map_eq_nil_iff.mp z)) (by rw [List.length_map]; omega) fun d2 hd2 => ?_⟩) (by rw [rngD_len]; exact sz_small (by show 0 + _ ≤ 1000; omega)) fun zs hlz hS => ?_
    · obtain ⟨y, hy, rfl⟩ := List.mem_map.mp hd2
      exact hK _ ⟨y, hy, rfl⟩
    · rw [rngD_len] at hlz
      obtain ⟨as, rfl⟩ := str_list fun d hd => by obtain ⟨y, _, e⟩ := hS d hd; exact ⟨y, e⟩
      rw [List.length_map] at hlz
      refine h as (by omega) fun a ha => ?_
      obtain ⟨y, hy2, e⟩ := hS (.str a) (List.mem_map.mpr ⟨a, ha, rfl⟩)
      cases e
      exact hy a hy2
  refine ⟨rfl, 2, rfl, by decide, by decide, fun k k0 k1 => ⟨⟨rfl, rfl, (nic_int (by omega)).shaped, (nic_int (by decide)).shaped⟩, if_b (fun q => ?_) (fun q => ?_)⟩⟩
  · refine ⟨rfl, (xs.length : Nat), by rw [List.length_map], by omega, by omega, fun j j0 j1 => ?_⟩
    have e1 : ∀ z : Int, z = ((j.toNat + 1 : Nat) : Int) → DL.cutD (xs.map D.str) none (some z) = (xs.take (j.toNat + 1)).map .str := fun z hz => by
      subst hz
      rw [cut_take, List.map_take]
    have e2 := e1 (1 + j) (by omega)
    have fin : ∀ ds : List D, ds = (xs.take (j.toNat + 1)).map .str → (wRet (wApp dTuple (wCons (wLc (wRange1 (wCons (wCall 2 d_dip (wCons (wVar 0) (wCons (wBin dAdd (wVar 2) (wC (.int 1))) wNil))) wNil)) (gN 4) wYes (wCall 2 d__law_one (wCons (wVar 0) (wCons (wVar 3) wNil))) [4]) wNil))) { nx := fun _ => P .non, rt := P } [some (.dat .well), some (.dat (sh xs)), some (.dat (.int m)), some (.dat (.tup ds)), none] := fun ds hd => by
      subst hd
      refine rest _ (fun z => ?_) (by rw [List.length_take]; omega) fun y hy => List.mem_of_mem_take hy
      have := congrArg List.length z
      rw [List.length_take, List.length_nil] at this
      omega
    exact fin _ e2
  · exact rest xs (fun z => by subst z; simp at h1) h2 fun y hy => hy
/-! ### the step rule by swaps -/
theorem split_at {ys : List Str} {a : Str} (h : a ∈ ys) : ∃ p q, ys = p ++ a :: q ∧ a ∉ p ∧ ys.idxOf a = p.length := by
  induction ys with
  | nil => simp at h
  | cons y ys ih =>
    by_cases e : y = a
    · subst e
      exact ⟨[], ys, rfl, by simp, by simp⟩
    · have h2 : a ∈ ys := (List.mem_cons.mp h).elim (fun z => absurd z.symm e) _root_.id
      obtain ⟨p, q, e1, e2, e3⟩ := ih h2
      refine ⟨y :: p, q, by rw [e1]; rfl, fun z => (List.mem_cons.mp z).elim (fun z => e z.symm) e2, ?_⟩
      rw [List.idxOf_cons, beq_eq_false_iff_ne.mpr e, List.length_cons, ← e3]
      rfl
theorem filter_split {p q : List Str} {a : Str} (nd : (p ++ a :: q).Nodup) : (p ++ a :: q).filter (· ≠ a) = p ++ q := by
  obtain ⟨h1, h2, h3⟩ := List.nodup_append.mp nd
  have hp : p.filter (· ≠ a) = p := List.filter_eq_self.mpr fun x hx => decide_eq_true (h3 x hx a List.mem_cons_self)
  have hq : q.filter (· ≠ a) = q := List.filter_eq_self.mpr fun x hx => decide_eq_true fun e => (List.nodup_cons.mp h2).1 (e ▸ hx)
  rw [List.filter_append, List.filter_cons_of_neg (by simp), hp, hq]
theorem step_first {ys : List Str} {a : Str} (nd : ys.Nodup) (h : a ∈ ys) (h0 : ys.idxOf a = 0) : stepSh ys a = ys := by
  obtain ⟨p, q, rfl, hp, hi⟩ := split_at h
  rw [h0] at hi
  have : p = [] := List.eq_nil_of_length_eq_zero hi.symm
  subst this
  unfold stepSh setAhead
  rw [h0, filter_split nd]
  rfl
theorem step_swap {ys : List Str} {a b : Str} {i : Nat} (nd : ys.Nodup) (h : a ∈ ys) (hi : ys.idxOf a = i + 1) (hb : ys[i]? = some b) : stepSh ys a = (ys.set i a).set (i + 1) b := by
  obtain ⟨p, q, rfl, hp, hl⟩ := split_at h
  rw [hi] at hl
  obtain ⟨p', c, rfl⟩ : ∃ p' c, p = p' ++ [c] := by
    rcases List.eq_nil_or_concat p with e | ⟨p', c, e⟩
    · subst e; simp at hl
    · exact ⟨p', c, by rw [e, List.concat_eq_append]⟩
  rw [List.length_append, List.length_singleton] at hl
  have hl : p'.length = i := by omega
  subst hl
  have ec : c = b := by
    have hb := hb
    rw [List.append_assoc, List.getElem?_append_right (Nat.le_refl _), Nat.sub_self] at hb
    simpa using hb
  subst ec
  unfold stepSh setAhead
  rw [hi, filter_split nd, show max 1 (p'.length + 1) - 1 = p'.length by omega, List.append_assoc, List.take_left, List.drop_left]
  rw [List.append_assoc, List.set_append_right _ _ (Nat.le_refl _), Nat.sub_self, List.set_append_right _ _ (by omega), show p'.length + 1 - p'.length = 1 by omega]
  rfl
theorem bySteps_take : ∀ {as xs : List Str} {n i : Nat} {a : Str}, as[i]? = some a → bySteps xs (as.take (i + 1)) n = (stepSh (bySteps xs (as.take i) n).1 a, (bySteps xs (as.take i) n).2 + (bySteps xs (as.take i) n).1.idxOf a + 1)
  | [], _, _, _, _, h => by simp at h
  | b :: as, xs, n, 0, a, h => by simp at h; subst h; simp [bySteps]
  | b :: as, xs, n, i + 1, a, h => by
    have := bySteps_take (as := as) (xs := stepSh xs b) (n := n + xs.idxOf b + 1) (i := i) (a := a) (by simpa using h)
    simpa [bySteps] using this
theorem bySteps_ok {xs : List Str} (hx : ShOk xs) : ∀ {as : List Str} {n : Nat}, (∀ a ∈ as, a ∈ xs) → ShOk (bySteps xs as n).1 ∧ (∀ y, y ∈ (bySteps xs as n).1 ↔ y ∈ xs) ∧ (bySteps xs as n).2 ≤ n + as.length * 7
  | [], n, _ => ⟨hx, fun _ => Iff.rfl, by simp [bySteps]⟩
  | a :: as, n, h => by
    have ha := h a List.mem_cons_self
    have := bySteps_ok (hx.step ha) (as := as) (n := n + xs.idxOf a + 1) fun b hb => (step_mem hx ha).mpr (h b (List.mem_cons_of_mem _ hb))
    obtain ⟨t1, t2, t3⟩ := this
    refine ⟨t1, fun y => (t2 y).trans (step_mem hx ha), ?_⟩
    have hi := idx_lt ha
    have h2 := hx.2.1
    show (bySteps (stepSh xs a) as (n + xs.idxOf a + 1)).2 ≤ _
    rw [List.length_cons, Nat.succ_mul]
    omega
end K55

set_option Elab.async false
set_option linter.all false
set_option maxRecDepth 100000
set_option maxHeartbeats 4000000
namespace K55
open PySem PySem.Spec PyProof.Rows L2 NdefX LamX DL
theorem at_nat {α : Type} {xs : List α} {i : Nat} {x : α} {z : Int} (hz : z = (i : Nat)) (h : xs[i]? = some x) : atI xs z = some x := by
  subst hz
  have hi := (List.getElem?_eq_some_iff.mp h).1
  unfold atI ixN
  rw [if_pos (by omega), if_pos (by omega)]
  exact h
theorem ix_nat {n i : Nat} {z : Int} (hz : z = (i : Nat)) (h : i < n) : ixN n z = some i := by
  subst hz
  unfold ixN
  rw [if_pos (by omega), if_pos (by omega)]
  simp
theorem first_str {xs : List Str} {a : Str} (h : a ∈ xs) : firstIx (xs.map D.str) (.str a) (xs.idxOf a) := by
  refine ⟨⟨.str a, by rw [List.getElem?_map, idx_get h]; rfl, by rw [eqv_str]; exact decide_eq_true rfl⟩, fun m z hm hz => ?_⟩
  rw [List.getElem?_map] at hz
  cases e : xs[m]? with
  | none => rw [e] at hz; cases hz
  | some y =>
    rw [e] at hz
    cases hz
    rw [eqv_str]
    exact decide_eq_false fun q => idx_first hm (by rw [e, q])
abbrev RHO (u1 : Option DL.Slot) (xs as hs : List Str) (t : Int) (u6 u7 u8 : Option DL.Slot) : Ev := [some (.dat .well), u1, some (.dat (sh xs)), some (.dat (sh as)), some (.own (.lst (hs.map .str))), some (.dat (.int t)), u6, u7, u8]
/-- the law's own walk: one asking -/
theorem p_walk {xs as hs : List Str} {a : Str} {n : Nat} {u1 u7 u8 : Option DL.Slot} {E : WEnds} (ok : ShOk hs) (ha : a ∈ hs)
    (h : ∀ u7 : Option DL.Slot, E.nx (RHO u1 xs as (stepSh hs a) (n + hs.idxOf a + 1 : Nat) (some (.dat (.str a))) u7 u8)) :
    (wSeq (wAsg (wMeth "list" dIndexL (wVarO 4) (wCons (wVar 6) wNil)) (gN 7))
      (wSeq (wAsg (wBin dAdd (wBin dAdd (wVar 5) (wVar 7)) (wC (.int 1))) (gN 5))
      (wIf (wTest (wBin dGt (wVar 7) (wC (.int 0)))) (wAsg (wTup (wCons (wBin dIx (wVarO 4) (wVar 7)) (wCons (wBin dIx (wVarO 4) (wBin dSub (wVar 7) (wC (.int 1)))) wNil))) (gT 2 (gsC (gIx 4 (wBin dSub (wVar 7) (wC (.int 1)))) (gsC (gIx 4 (wVar 7)) gsN)))) wNext))) E (RHO u1 xs as hs (n : Nat) (some (.dat (.str a))) u7 u8) := by
  refine ⟨(rfl : "list" = "list"), ⟨rfl, flat_strs⟩, hs.idxOf a, first_str ha, ?_⟩
  have et : ((n : Nat) + (hs.idxOf a : Nat) + 1 : Int) = ((n + hs.idxOf a + 1 : Nat) : Int) := by omega
  have hlt := idx_lt ha
  refine if_b (fun q => ?_) (fun q => ?_)
  · have q : (0 : Int) < (hs.idxOf a : Nat) := of_decide_eq_true q
    obtain ⟨i, hi⟩ : ∃ i, hs.idxOf a = i + 1 := ⟨hs.idxOf a - 1, by omega⟩
    have hb : ∃ b, hs[i]? = some b := ⟨hs[i]'(by omega), List.getElem?_eq_getElem (by omega)⟩
    obtain ⟨b, hb⟩ := hb
    have ga : (hs.map D.str)[hs.idxOf a]? = some (.str a) := by rw [List.getElem?_map, idx_get ha]; rfl
    have gb : (hs.map D.str)[i]? = some (.str b) := by rw [List.getElem?_map, hb]; rfl
    refine ⟨.str a, at_nat rfl ga, .str b, at_nat (by omega) gb, sz_small (by show 2 ≤ 1000; decide), rfl, ?_⟩
    refine ⟨i, ix_nat (by omega) (by rw [List.length_map]; omega), ?_⟩
    refine ⟨hs.idxOf a, ix_nat rfl (by rw [List.length_set, List.length_map]; omega), rfl, ?_⟩
    have hx := h (some (.dat (.int (hs.idxOf a : Nat))))
    rw [step_swap ok.2.2.2 ha hi hb, ← hi, ← et] at hx
    unfold RHO at hx
    rw [List.map_set, List.map_set] at hx
    exact hx
  · have q : ¬ (0 : Int) < (hs.idxOf a : Nat) := of_decide_eq_false q
    have hx := h (some (.dat (.int (hs.idxOf a : Nat))))
    rw [step_first ok.2.2.2 ha (by omega), ← et] at hx
    exact hx
theorem nic_sh {xs : List Str} (h : ShOk xs) : Nic (sh xs) 1 63 := ShOk.nic h.2.2.1 h.2.1
theorem p_law_right {P : D → Prop} (h : P (.bl true)) : d__law_right [.well] P := by
  refine ⟨⟨by decide, by decide⟩, ?_⟩
  refine forGo_inv (fun _ ρ => ∃ u1 u2 u3 u4 u5 u6 u7 u8, ρ = [some (.dat .well), u1, u2, u3, u4, u5, u6, u7, u8]) 0 ⟨_, _, _, _, _, _, _, _, rfl⟩ ?_ ?_
  · rintro i d ρ nx hd ⟨u1, u2, u3, u4, u5, u6, u7, u8, rfl⟩ hn
    refine ⟨rfl, p_law_shelf (by decide) (by decide) fun xs hx => ?_⟩
    refine ⟨rfl, p_law_asks hx (by decide) (by decide) fun as hl hs => ?_⟩
    refine ⟨.lst, rfl, ?_⟩
    have e0 : bySteps xs [] 0 = (xs, 0) := rfl
    refine forGo_inv (fun j ρ => ∃ u6 u7, ρ = RHO (some (.dat d)) xs as (bySteps xs (as.take j) 0).1 ((bySteps xs (as.take j) 0).2 : Nat) u6 u7 u8) 0 ⟨u6, u7, rfl⟩ ?_ ?_
    · rintro j dj ρ nx2 hdj ⟨u6, u7, rfl⟩ hn2
      rw [Nat.zero_add] at hn2 ⊢
      obtain ⟨a, ha, rfl⟩ : ∃ a, as[j]? = some a ∧ dj = .str a := by
        have hdj : (as.map D.str)[j]? = some dj := hdj
        rw [List.getElem?_map] at hdj
        cases e : as[j]? with
        | none => rw [e] at hdj; cases hdj
        | some a => rw [e] at hdj; cases hdj; exact ⟨a, rfl, rfl⟩
      obtain ⟨k1, k2, _⟩ := bySteps_ok hx (as := as.take j) (n := 0) fun b hb => hs b (List.mem_of_mem_take hb)
      refine p_walk k1 ((k2 a).mpr (hs a (List.mem_of_getElem? ha))) fun u7 => hn2 _ ⟨some (.dat (.str a)), u7, ?_⟩
      rw [bySteps_take ha]
    · rintro ρ ⟨u6, u7, rfl⟩
      rw [Nat.zero_add, List.length_map, List.take_length]
      obtain ⟨k1, k2, k3⟩ := bySteps_ok hx (as := as) (n := 0) hs
      have n1 := nic_sh k1
      have n2 : Nic (.int ((bySteps xs as 0).2 : Nat)) 0 40 := nic_int (by omega)
      refine ⟨rfl, p_stepped hx hl hs ⟨rfl, rfl, p_stepped hx hl hs ?_⟩⟩
      refine ⟨sz_small (by show 2 ≤ 1000; decide), (nic_pair n1 n1).repr, sz_small (by show 2 ≤ 1000; decide), (nic_pair n1 n1).repr, ?_⟩
      refine if_f (by rw [decide_eq_true rfl]; rfl) ?_
      refine ⟨rfl, p_step_cost hx hl hs ⟨rfl, rfl, p_step_cost hx hl hs ?_⟩⟩
      refine ⟨sz_small (by show 2 ≤ 1000; decide), (nic_pair n2 n2).repr, sz_small (by show 2 ≤ 1000; decide), (nic_pair n2 n2).repr, ?_⟩
      refine if_f (by rw [decide_eq_true rfl]; rfl) ?_
      obtain ⟨x, ys, rfl⟩ : ∃ x ys, xs = x :: ys := by
        cases xs with
        | nil => exact absurd hx.1 (by decide)
        | cons x ys => exact ⟨x, ys, rfl⟩
      have hmem : ∀ a ∈ [x, x, x], a ∈ x :: ys := fun a ha => by
        simp only [List.mem_cons, List.not_mem_nil, or_false] at ha
        rcases ha with e | e | e <;> (rw [e]; exact List.mem_cons_self)
      have s1 : stepSh (x :: ys) x = x :: ys := step_first hx.2.2.2 List.mem_cons_self (by simp)
      have e3 : (bySteps (x :: ys) [x, x, x] 0).1 = x :: ys := by
        show (bySteps (stepSh (stepSh (stepSh (x :: ys) x) x) x) [] _).1 = _
        rw [s1, s1, s1]
        rfl
      have nx := nic_sh hx
      refine ⟨.str x, at_nat (i := 0) rfl rfl, sz_small (by show 1 ≤ 1000; decide), by simp, by decide, by decide, by show 1 ≤ 1000; decide, rfl, ?_⟩
      refine p_stepped (as := [x, x, x]) hx (by show 3 ≤ 30; decide) hmem ?_
      rw [e3]
      refine ⟨⟨nx.py, nx.py, nx.shaped, nx.shaped⟩, ?_⟩
      refine if_f (by rw [eqv_strs, decide_eq_true rfl]; rfl) ?_
      exact hn _ ⟨_, _, _, _, _, _, _, _, rfl⟩
  · rintro ρ ⟨u1, u2, u3, u4, u5, u6, u7, u8, rfl⟩
    exact h
theorem p_law {ns : List Int} (hl : ns.length ≤ 63) {P : D → Prop} (h : P (.bl true)) : d_law [.scr ns] P := by
  refine ⟨⟨True.intro, True.intro⟩, rfl, p_law_turns hl fun m hm => ?_⟩
  refine lcGo_map (f := fun _ => some (.bl true)) (fun d hd K hK => ?_) (by rw [rngD_len]; exact sz_small (by show 0 + _ ≤ 1000; omega)) ?_
  · obtain ⟨i, hi, rfl⟩ := List.mem_map.mp (show d ∈ (List.range m).map fun i => D.int (0 + (i : Nat)) from hd)
    have hi := List.mem_range.mp hi
    refine ⟨rfl, rfl, ?_⟩
    have w := p_law_well (ns := ns) (k := i) hl (by omega) (P := fun d => WellD d ∧ d__law_right [.well] fun r => (∃ b, r = .bl b) ∧ K (some r)) fun d hw => ⟨hw, p_law_right ⟨⟨true, rfl⟩, hK⟩⟩
    rw [show ((i : Nat) : Int) = 0 + (i : Nat) by omega] at w
    exact w
  · rw [List.nil_append, fm_const]
    exact all_true h
end K55

set_option Elab.async false
set_option linter.all false
set_option maxRecDepth 100000
set_option maxHeartbeats 4000000
namespace K55
open PySem PySem.Spec PyProof.Rows L2 NdefX LamX DL
def top (i : Nat) : Stmt := PySem.Challenge.pw_frontshelf_k55_whole_step_rule.main.body.getD i (.Pass ⟨0, 0, 0, 0⟩)
abbrev s__law_dip : Stmt := top 30
abbrev s__law_one : Stmt := top 31
abbrev s__law_words : Stmt := top 33
abbrev s__law_shelf : Stmt := top 34
abbrev s__law_asks : Stmt := top 35
abbrev s_is_word : Stmt := top 10
abbrev s_is_name : Stmt := top 11
abbrev s_is_shelf_form : Stmt := top 15
abbrev s_check_shelf : Stmt := top 19
abbrev s_wrong_at : Stmt := top 8
abbrev s_is_one_of : Stmt := top 9
abbrev s_wrong_askings : Stmt := top 16
abbrev s_check_askings_of : Stmt := top 20
abbrev s_check_asked : Stmt := top 21
abbrev s_place_in : Stmt := top 17
abbrev s_set_ahead : Stmt := top 23
abbrev s_by_steps : Stmt := top 25
abbrev s_stepped : Stmt := top 26
abbrev s_step_cost : Stmt := top 27
abbrev s__law_right : Stmt := top 36
abbrev s__law_well : Stmt := top 29
abbrev s__law_turns : Stmt := top 32
abbrev s_law : Stmt := top 37
/-- what the module holds -/
structure Gl0 (K : PySem.W.Frag) (mg : Str → Option Value) : Prop where
  abs : mg "abs" = none
  all : mg "all" = none
  divmod : mg "divmod" = none
  enumerate : mg "enumerate" = none
  int : mg "int" = none
  isinstance : mg "isinstance" = none
  len : mg "len" = none
  list : mg "list" = none
  max : mg "max" = none
  min : mg "min" = none
  range : mg "range" = none
  repr : mg "repr" = none
  str : mg "str" = none
  tuple : mg "tuple" = none
  c_MOST_ASKINGS : ∃ t, mg "MOST_ASKINGS" = some (.int 30 t)
  c_MOST_BOOKS : ∃ t, mg "MOST_BOOKS" = some (.int 7 t)
  c_MOST_SIGNS : ∃ t, mg "MOST_SIGNS" = some (.int 8 t)
  c_SMALL : ∃ t, mg "SMALL" = some (.str "abcdefghijklmnopqrstuvwxyz" t)
  c_WORDS : ∃ a, mg "WORDS" = some (.ref a) ∧ ∀ (C : DC) (O : Addr → Prop) (H : Hp), C.K = K → Rp C O H (.tup c_WORDS) (.ref a)
theorem sc__law_dip : FnScope ["well", "many", "digit"] ["well", "many"] (defScope s__law_dip) := ⟨rfl, rfl, rfl, by decide +kernel, rfl, by decide +kernel, by decide +kernel⟩
theorem b__law_dip {K : PySem.W.Frag} {f : Addr} {fd : FuncData} (F : Fun K "_law_dip" "_law_dip" s__law_dip f fd) : L2.Binds K fd ["well", "many"] [] := F.binds fun _ _ _ _ _ _ us hl => match us, hl with | [_, _], _ => rfl
theorem sc__law_one : FnScope ["well", "some"] ["well", "some"] (defScope s__law_one) := ⟨rfl, rfl, rfl, by decide +kernel, rfl, by decide +kernel, by decide +kernel⟩
theorem b__law_one {K : PySem.W.Frag} {f : Addr} {fd : FuncData} (F : Fun K "_law_one" "_law_one" s__law_one f fd) : L2.Binds K fd ["well", "some"] [] := F.binds fun _ _ _ _ _ _ us hl => match us, hl with | [_, _], _ => rfl
theorem sc__law_words : FnScope ["well", "many", "letters", "found", "taken", "k", "word", "some", "turn", "sign", "each"] ["well", "many"] (defScope s__law_words) := ⟨rfl, rfl, rfl, by decide +kernel, rfl, by decide +kernel, by decide +kernel⟩
theorem b__law_words {K : PySem.W.Frag} {f : Addr} {fd : FuncData} (F : Fun K "_law_words" "_law_words" s__law_words f fd) : L2.Binds K fd ["well", "many"] [] := F.binds fun _ _ _ _ _ _ us hl => match us, hl with | [_, _], _ => rfl
theorem sc__law_shelf : FnScope ["well", "most"] ["well", "most"] (defScope s__law_shelf) := ⟨rfl, rfl, rfl, by decide +kernel, rfl, by decide +kernel, by decide +kernel⟩
theorem b__law_shelf {K : PySem.W.Frag} {f : Addr} {fd : FuncData} (F : Fun K "_law_shelf" "_law_shelf" s__law_shelf f fd) : L2.Binds K fd ["well", "most"] [] := F.binds fun _ _ _ _ _ _ us hl => match us, hl with | [_, _], _ => rfl
theorem sc__law_asks : FnScope ["well", "shelf", "most", "some", "turn"] ["well", "shelf", "most"] (defScope s__law_asks) := ⟨rfl, rfl, rfl, by decide +kernel, rfl, by decide +kernel, by decide +kernel⟩
theorem b__law_asks {K : PySem.W.Frag} {f : Addr} {fd : FuncData} (F : Fun K "_law_asks" "_law_asks" s__law_asks f fd) : L2.Binds K fd ["well", "shelf", "most"] [] := F.binds fun _ _ _ _ _ _ us hl => match us, hl with | [_, _, _], _ => rfl
theorem sc_is_word : FnScope ["value", "sign"] ["value"] (defScope s_is_word) := ⟨rfl, rfl, rfl, by decide +kernel, rfl, by decide +kernel, by decide +kernel⟩
theorem b_is_word {K : PySem.W.Frag} {f : Addr} {fd : FuncData} (F : Fun K "is_word" "is_word" s_is_word f fd) : L2.Binds K fd ["value"] [] := F.binds fun _ _ _ _ _ _ us hl => match us, hl with | [_], _ => rfl
theorem sc_is_name : FnScope ["value"] ["value"] (defScope s_is_name) := ⟨rfl, rfl, rfl, by decide +kernel, rfl, by decide +kernel, by decide +kernel⟩
theorem b_is_name {K : PySem.W.Frag} {f : Addr} {fd : FuncData} (F : Fun K "is_name" "is_name" s_is_name f fd) : L2.Binds K fd ["value"] [] := F.binds fun _ _ _ _ _ _ us hl => match us, hl with | [_], _ => rfl
theorem sc_is_shelf_form : FnScope ["value", "book"] ["value"] (defScope s_is_shelf_form) := ⟨rfl, rfl, rfl, by decide +kernel, rfl, by decide +kernel, by decide +kernel⟩
theorem b_is_shelf_form {K : PySem.W.Frag} {f : Addr} {fd : FuncData} (F : Fun K "is_shelf_form" "is_shelf_form" s_is_shelf_form f fd) : L2.Binds K fd ["value"] [] := F.binds fun _ _ _ _ _ _ us hl => match us, hl with | [_], _ => rfl
theorem sc_check_shelf : FnScope ["value"] ["value"] (defScope s_check_shelf) := ⟨rfl, rfl, rfl, by decide +kernel, rfl, by decide +kernel, by decide +kernel⟩
theorem b_check_shelf {K : PySem.W.Frag} {f : Addr} {fd : FuncData} (F : Fun K "check_shelf" "check_shelf" s_check_shelf f fd) : L2.Binds K fd ["value"] [] := F.binds fun _ _ _ _ _ _ us hl => match us, hl with | [_], _ => rfl
theorem sc_wrong_at : FnScope ["value", "is_right", "at", "each"] ["value", "is_right"] (defScope s_wrong_at) := ⟨rfl, rfl, rfl, by decide +kernel, rfl, by decide +kernel, by decide +kernel⟩
theorem b_wrong_at {K : PySem.W.Frag} {f : Addr} {fd : FuncData} (F : Fun K "wrong_at" "wrong_at" s_wrong_at f fd) : L2.Binds K fd ["value", "is_right"] [] := F.binds fun _ _ _ _ _ _ us hl => match us, hl with | [_, _], _ => rfl
theorem sc_is_one_of : FnScope ["value", "words"] ["value", "words"] (defScope s_is_one_of) := ⟨rfl, rfl, rfl, by decide +kernel, rfl, by decide +kernel, by decide +kernel⟩
theorem b_is_one_of {K : PySem.W.Frag} {f : Addr} {fd : FuncData} (F : Fun K "is_one_of" "is_one_of" s_is_one_of f fd) : L2.Binds K fd ["value", "words"] [] := F.binds fun _ _ _ _ _ _ us hl => match us, hl with | [_, _], _ => rfl
theorem sc_wrong_askings : FnScope ["shelf", "value", "most"] ["shelf", "value", "most"] (defScope s_wrong_askings) := ⟨rfl, rfl, rfl, by decide +kernel, rfl, by decide +kernel, by decide +kernel⟩
theorem b_wrong_askings {K : PySem.W.Frag} {f : Addr} {fd : FuncData} (F : Fun K "wrong_askings" "wrong_askings" s_wrong_askings f fd) : L2.Binds K fd ["shelf", "value", "most"] [] := F.binds fun _ _ _ _ _ _ us hl => match us, hl with | [_, _, _], _ => rfl
theorem sc_check_askings_of : FnScope ["shelf", "value", "at"] ["shelf", "value"] (defScope s_check_askings_of) := ⟨rfl, rfl, rfl, by decide +kernel, rfl, by decide +kernel, by decide +kernel⟩
theorem b_check_askings_of {K : PySem.W.Frag} {f : Addr} {fd : FuncData} (F : Fun K "check_askings_of" "check_askings_of" s_check_askings_of f fd) : L2.Binds K fd ["shelf", "value"] [] := F.binds fun _ _ _ _ _ _ us hl => match us, hl with | [_, _], _ => rfl
theorem sc_check_asked : FnScope ["shelf", "askings"] ["shelf", "askings"] (defScope s_check_asked) := ⟨rfl, rfl, rfl, by decide +kernel, rfl, by decide +kernel, by decide +kernel⟩
theorem b_check_asked {K : PySem.W.Frag} {f : Addr} {fd : FuncData} (F : Fun K "check_asked" "check_asked" s_check_asked f fd) : L2.Binds K fd ["shelf", "askings"] [] := F.binds fun _ _ _ _ _ _ us hl => match us, hl with | [_, _], _ => rfl
theorem sc_place_in : FnScope ["shelf", "book"] ["shelf", "book"] (defScope s_place_in) := ⟨rfl, rfl, rfl, by decide +kernel, rfl, by decide +kernel, by decide +kernel⟩
theorem b_place_in {K : PySem.W.Frag} {f : Addr} {fd : FuncData} (F : Fun K "place_in" "place_in" s_place_in f fd) : L2.Binds K fd ["shelf", "book"] [] := F.binds fun _ _ _ _ _ _ us hl => match us, hl with | [_, _], _ => rfl
theorem sc_set_ahead : FnScope ["shelf", "book", "place", "others", "own"] ["shelf", "book", "place"] (defScope s_set_ahead) := ⟨rfl, rfl, rfl, by decide +kernel, rfl, by decide +kernel, by decide +kernel⟩
theorem b_set_ahead {K : PySem.W.Frag} {f : Addr} {fd : FuncData} (F : Fun K "set_ahead" "set_ahead" s_set_ahead f fd) : L2.Binds K fd ["shelf", "book", "place"] [] := F.binds fun _ _ _ _ _ _ us hl => match us, hl with | [_, _, _], _ => rfl
theorem sc_by_steps : FnScope ["shelf", "askings", "paid", "book", "place"] ["shelf", "askings"] (defScope s_by_steps) := ⟨rfl, rfl, rfl, by decide +kernel, rfl, by decide +kernel, by decide +kernel⟩
theorem b_by_steps {K : PySem.W.Frag} {f : Addr} {fd : FuncData} (F : Fun K "by_steps" "by_steps" s_by_steps f fd) : L2.Binds K fd ["shelf", "askings"] [] := F.binds fun _ _ _ _ _ _ us hl => match us, hl with | [_, _], _ => rfl
theorem sc_stepped : FnScope ["shelf", "askings"] ["shelf", "askings"] (defScope s_stepped) := ⟨rfl, rfl, rfl, by decide +kernel, rfl, by decide +kernel, by decide +kernel⟩
theorem b_stepped {K : PySem.W.Frag} {f : Addr} {fd : FuncData} (F : Fun K "stepped" "stepped" s_stepped f fd) : L2.Binds K fd ["shelf", "askings"] [] := F.binds fun _ _ _ _ _ _ us hl => match us, hl with | [_, _], _ => rfl
theorem sc_step_cost : FnScope ["shelf", "askings"] ["shelf", "askings"] (defScope s_step_cost) := ⟨rfl, rfl, rfl, by decide +kernel, rfl, by decide +kernel, by decide +kernel⟩
theorem b_step_cost {K : PySem.W.Frag} {f : Addr} {fd : FuncData} (F : Fun K "step_cost" "step_cost" s_step_cost f fd) : L2.Binds K fd ["shelf", "askings"] [] := F.binds fun _ _ _ _ _ _ us hl => match us, hl with | [_, _], _ => rfl
theorem sc__law_right : FnScope ["well", "turn", "shelf", "askings", "here", "total", "book", "at", "due"] ["well"] (defScope s__law_right) := ⟨rfl, rfl, rfl, by decide +kernel, rfl, by decide +kernel, by decide +kernel⟩
theorem b__law_right {K : PySem.W.Frag} {f : Addr} {fd : FuncData} (F : Fun K "_law_right" "_law_right" s__law_right f fd) : L2.Binds K fd ["well"] [] := F.binds fun _ _ _ _ _ _ us hl => match us, hl with | [_], _ => rfl
theorem sc__law_well : FnScope ["script", "k", "spot", "blend", "each"] ["script", "k"] (defScope s__law_well) := ⟨rfl, rfl, rfl, by decide +kernel, rfl, by decide +kernel, by decide +kernel⟩
theorem b__law_well {K : PySem.W.Frag} {f : Addr} {fd : FuncData} (F : Fun K "_law_well" "_law_well" s__law_well f fd) : L2.Binds K fd ["script", "k"] [] := F.binds fun _ _ _ _ _ _ us hl => match us, hl with | [_, _], _ => rfl
theorem sc__law_turns : FnScope ["script"] ["script"] (defScope s__law_turns) := ⟨rfl, rfl, rfl, by decide +kernel, rfl, by decide +kernel, by decide +kernel⟩
theorem b__law_turns {K : PySem.W.Frag} {f : Addr} {fd : FuncData} (F : Fun K "_law_turns" "_law_turns" s__law_turns f fd) : L2.Binds K fd ["script"] [] := F.binds fun _ _ _ _ _ _ us hl => match us, hl with | [_], _ => rfl
theorem sc_law : FnScope ["script", "k"] ["script"] (defScope s_law) := ⟨rfl, rfl, rfl, by decide +kernel, rfl, by decide +kernel, by decide +kernel⟩
theorem b_law {K : PySem.W.Frag} {f : Addr} {fd : FuncData} (F : Fun K "law" "law" s_law f fd) : L2.Binds K fd ["script"] [] := F.binds fun _ _ _ _ _ _ us hl => match us, hl with | [_], _ => rfl
theorem kb_step_cost_1_0 {K : PySem.W.Frag} {f : Addr} {fd : FuncData} (F : Fun K "step_cost" "step_cost" s_step_cost f fd) : KBinds K fd ["shelf", "askings"] ["askings", "shelf"] (gK [1, 0] 2) (gK [1, 0] 2) := kbinds F (by simp) fun _ _ _ _ _ _ ws hl => match ws, hl with | [_, _], _ => rfl
theorem kb_stepped_1_0 {K : PySem.W.Frag} {f : Addr} {fd : FuncData} (F : Fun K "stepped" "stepped" s_stepped f fd) : KBinds K fd ["shelf", "askings"] ["askings", "shelf"] (gK [1, 0] 2) (gK [1, 0] 2) := kbinds F (by simp) fun _ _ _ _ _ _ ws hl => match ws, hl with | [_, _], _ => rfl
section
variable {P : Program} {w : World} {K : PySem.W.Frag} {mg : Str → Option Value} {base : Heap} {T : List NTab}
theorem ok__law_dip (gl : Gl0 K mg) {f : Addr} {fd : FuncData} (F : Fun K "_law_dip" "_law_dip" s__law_dip f fd) : FnG P w K mg base CX0 1 f fd ["well", "many"] (spD ⟨K, T, none⟩ 2 d_dip) :=
  fn_raw (k := 0) F sc__law_dip rfl fun cdv A outer s H vs Q hr h => ⟨t_dip K, (pss_cons (ps_if (pt_cmpR op_gt (pe_ix ix_list (vr 0 rfl (vL rfl)) pe_int (fun _ _ => rfl)) pe_int (nomark _)) (pss_cons (ps_asg (pe_callB call_divmod rfl gl.divmod boot_divmod (pa_cons (pe_ix ix_list (vr 0 rfl (vL rfl)) pe_int (fun _ _ => rfl)) (pa_cons (vr 1 rfl (vL rfl)) pa_nil))) (pg_tup rfl (pgs_cons (pg_sub (vr 0 rfl (vL rfl)) pe_int set_list) (pgs_cons (pg_name (i := 2) sc__law_dip.nd rfl (Or.inl rfl)) pgs_nil)))) (pss_one (ps_ret (vr 2 rfl (vL rfl))))) pss_nil) (pss_cons (ps_asg (pe_op op_add (pe_ix ix_list (vr 0 rfl (vL rfl)) pe_int (fun _ _ => rfl)) pe_int) (pg_sub (vr 0 rfl (vL rfl)) pe_int set_list)) (pss_cons (ps_asg (pe_op op_mod (pe_callTy call_int1 rfl gl.int boot_int (pa_cons (pe_op op_add (pe_op op_add (pe_op op_mul (pe_ix ix_list (vr 0 rfl (vL rfl)) pe_int (fun _ _ => rfl)) pe_int) (pe_op op_mul pe_int (pe_ix ix_list (vr 0 rfl (vL rfl)) pe_int (fun _ _ => rfl)))) pe_int) pa_nil)) pe_int) (pg_sub (vr 0 rfl (vL rfl)) pe_int set_list)) (pss_one (ps_ret (pe_op op_mod (pe_callTy call_int1 rfl gl.int boot_int (pa_cons (pe_op op_fdiv (pe_ix ix_list (vr 0 rfl (vL rfl)) pe_int (fun _ _ => rfl)) pe_int) pa_nil)) (vr 1 rfl (vL rfl)))))))), dip_plain h⟩
theorem ok__law_one (gl : Gl0 K mg) (kn__law_dip : Kn P w K mg base ⟨K, T, none⟩ 1 "_law_dip" s__law_dip ["well", "many"] 2 d_dip) {f : Addr} {fd : FuncData} (F : Fun K "_law_one" "_law_one" s__law_one f fd) : FnG P w K mg base CX0 2 f fd ["well", "some"] (spD ⟨K, T, none⟩ 2 d__law_one) :=
  fn_ok (k := 1) F sc__law_one rfl fun cdv A outer s H aw S hr => ⟨t__law_one, (js_one (js_ret (je_ix rfl (je_v 1 rfl (vL rfl)) (je_callN kn__law_dip hr (by decide) (fun F => b__law_dip F) rfl (ja_cons (je_v 0 rfl (vL rfl)) (ja_cons (je_cb (cr_dlen rfl) rfl gl.len boot_len (jb_cons (je_v 1 rfl (vL rfl)) jb_nil)) ja_nil)))))), fun ds P _ h => h⟩
theorem ok__law_words (gl : Gl0 K mg) (kn__law_one : Kn P w K mg base ⟨K, T, none⟩ 2 "_law_one" s__law_one ["well", "some"] 2 d__law_one) (kn__law_dip : Kn P w K mg base ⟨K, T, none⟩ 1 "_law_dip" s__law_dip ["well", "many"] 2 d_dip) {f : Addr} {fd : FuncData} (F : Fun K "_law_words" "_law_words" s__law_words f fd) : FnG P w K mg base CX0 3 f fd ["well", "many"] (spD ⟨K, T, none⟩ 2 d__law_words) :=
  fn_ok (k := 2) F sc__law_words rfl fun cdv A outer s H aw S hr => ⟨t__law_words, (js_cons (js_parT (js := [2, 3]) (ks := [.d, .o]) rfl rfl (pgs_cons (pg_name (i := 2) sc__law_words.nd rfl (Or.inr rfl)) (pgs_cons (pg_name (i := 3) sc__law_words.nd rfl (Or.inr rfl)) pgs_nil)) (jkd je_str (jko (je_lst ja_nil) (fun _ => jk0))) (by decide))
    (js_cons (js_set (i := 4) (fun te h => ps_set (i := 4) sc__law_words.nd rfl (Or.inr rfl) h) (je_lst (ja_cons je_str (ja_cons je_str (ja_cons je_str (ja_cons je_str (ja_cons je_str (ja_cons je_str (ja_cons je_str (ja_cons je_str (ja_cons je_str (ja_cons je_str (ja_cons je_str (ja_cons je_str (ja_cons je_str ja_nil)))))))))))))))
    (js_cons (js_set (i := 4) (fun te h => ps_set (i := 4) sc__law_words.nd rfl (Or.inr rfl) h) (je_op (op_dadd rfl) (je_v 4 rfl (vC rfl)) (je_lst (ja_cons je_str ja_nil))))
    (js_cons (js_set (i := 4) (fun te h => ps_set (i := 4) sc__law_words.nd rfl (Or.inr rfl) h) (je_op (op_dadd rfl) (je_v 4 rfl (vC rfl)) (je_lst (ja_cons je_str (ja_cons je_str (ja_cons je_str (ja_cons je_str (ja_cons je_str (ja_cons je_str (ja_cons je_str (ja_cons je_str (ja_cons je_str (ja_cons je_str (ja_cons je_str (ja_cons je_str ja_nil)))))))))))))))
    (js_cons (js_set (i := 4) (fun te h => ps_set (i := 4) sc__law_words.nd rfl (Or.inr rfl) h) (je_op (op_dadd rfl) (je_v 4 rfl (vC rfl)) (je_lst (ja_cons je_str ja_nil))))
    (js_cons (js_set (i := 4) (fun te h => ps_set (i := 4) sc__law_words.nd rfl (Or.inr rfl) h) (je_op (op_dadd rfl) (je_v 4 rfl (vC rfl)) (je_lst (ja_cons je_str (ja_cons je_str (ja_cons je_str (ja_cons je_str (ja_cons je_str (ja_cons je_str (ja_cons je_str (ja_cons je_str (ja_cons je_str ja_nil))))))))))))
    (js_cons (js_for PassesOwn.never rfl (ji_range1 (full := true) rfl gl.range (jb_cons (je_v 1 rfl (vL rfl)) jb_nil)) (jg_name (pg_name (i := 5) sc__law_words.nd rfl (Or.inl rfl))) (js_cons (js_set (i := 6) (fun te h => ps_set (i := 6) sc__law_words.nd rfl (Or.inr rfl) h) (je_meth (T := "str") rfl PySem.F.plainAttrs_str PySem.F.slot_str_join PySem.F.type_str_join (mt_djoin rfl) je_str (jb_cons (je_lc (own := [("turn", 8)]) rfl sc__law_words.nd (ji_range1 (full := true) rfl gl.range (jb_cons (je_op (op_dadd rfl) je_int (je_callN kn__law_dip hr (by decide) (fun F => b__law_dip F) rfl (ja_cons (je_v 0 rfl (vC rfl)) (ja_cons (je_callN kn__law_one hr (by decide) (fun F => b__law_one F) rfl (ja_cons (je_v 0 rfl (vC rfl)) (ja_cons (je_lst (ja_cons je_int (ja_cons je_int (ja_cons je_int ja_nil)))) ja_nil))) ja_nil)))) jb_nil)) (blkOk_by (by rfl)) (fun _ _ _ _ _ _ => (jg_name (pg_name (i := 8) sc__law_words.nd rfl (Or.inl rfl)))) (fun _ _ _ _ _ _ => jts_nil) (fun _ _ _ _ _ _ => (je_callN kn__law_one hr (by decide) (fun F => b__law_one F) rfl (ja_cons (je_v 0 rfl (vC rfl)) (ja_cons (je_v 2 rfl (vC rfl)) ja_nil))))) jb_nil)))
    (js_cons (js_set (i := 7) (fun te h => ps_set (i := 7) sc__law_words.nd rfl (Or.inl rfl) h) (je_op (op_dadd rfl) (je_op (op_dadd rfl) (je_lst (ja_cons (je_v 6 rfl (vC rfl)) ja_nil)) (je_lc (own := [("sign", 9)]) rfl sc__law_words.nd (ji_str (full := true) (je_v 2 rfl (vC rfl))) (blkOk_by (by rfl)) (fun _ _ _ _ _ _ => (jg_name (pg_name (i := 9) sc__law_words.nd rfl (Or.inl rfl)))) (fun _ _ _ _ _ _ => jts_nil) (fun _ _ _ _ _ _ => (je_op (op_dadd rfl) (je_op (op_dadd rfl) (je_sl rfl (je_v 6 rfl (vC rfl)) jo_none (jo_some je_int)) (je_v 9 rfl (vL rfl))) je_str)))) (je_lc (own := [("sign", 9)]) rfl sc__law_words.nd (ji_str (full := true) (je_v 2 rfl (vC rfl))) (blkOk_by (by rfl)) (fun _ _ _ _ _ _ => (jg_name (pg_name (i := 9) sc__law_words.nd rfl (Or.inl rfl)))) (fun _ _ _ _ _ _ => jts_nil) (fun _ _ _ _ _ _ => (je_op (op_dadd rfl) (je_op (op_dadd rfl) (je_sl rfl (je_v 6 rfl (vC rfl)) jo_none (jo_some je_int)) (je_v 9 rfl (vL rfl))) je_str)))))
    (js_one (js_mu (i := 3) (T := "list") rfl PySem.F.plainAttrs_list PySem.F.slot_list_append PySem.F.type_list_append mt_dappend (vr 3 rfl (vC rfl)) (ja_cons (je_ix rfl (je_lc (own := [("each", 10)]) rfl sc__law_words.nd (ji_sq rfl (je_v 7 rfl (vL rfl))) (blkOk_by (by rfl)) (fun _ _ _ _ _ _ => (jg_name (pg_name (i := 10) sc__law_words.nd rfl (Or.inl rfl)))) (fun _ _ _ _ _ _ => (jts_one (jt_cmp (op_dnotin rfl) (je_v 10 rfl (vL rfl)) (je_op (op_dadd rfl) (je_vO 3 rfl (vC rfl)) (je_v 4 rfl (vC rfl))) (by with_unfolding_all rfl)))) (fun _ _ _ _ _ _ => (je_v 10 rfl (vL rfl)))) je_int) ja_nil) isT_append)))))
    (js_one (js_retO (i := 3) (vr 3 rfl (vC rfl))))))))))), fun ds P _ h => h⟩
theorem ok__law_shelf (gl : Gl0 K mg) (kn__law_words : Kn P w K mg base ⟨K, T, none⟩ 3 "_law_words" s__law_words ["well", "many"] 2 d__law_words) (kn__law_dip : Kn P w K mg base ⟨K, T, none⟩ 1 "_law_dip" s__law_dip ["well", "many"] 2 d_dip) {f : Addr} {fd : FuncData} (F : Fun K "_law_shelf" "_law_shelf" s__law_shelf f fd) : FnG P w K mg base CX0 4 f fd ["well", "most"] (spD ⟨K, T, none⟩ 2 d__law_shelf) :=
  fn_ok (k := 3) F sc__law_shelf rfl fun cdv A outer s H aw S hr => ⟨t__law_shelf, (js_one (js_ret (je_cty (cr_dtuple rfl) rfl gl.tuple boot_tuple (jb_cons (je_callN kn__law_words hr (by decide) (fun F => b__law_words F) rfl (ja_cons (je_v 0 rfl (vL rfl)) (ja_cons (je_op (op_dadd rfl) je_int (je_callN kn__law_dip hr (by decide) (fun F => b__law_dip F) rfl (ja_cons (je_v 0 rfl (vL rfl)) (ja_cons (je_v 1 rfl (vL rfl)) ja_nil)))) ja_nil))) jb_nil)))), fun ds P _ h => h⟩
theorem ok__law_asks (gl : Gl0 K mg) (kn__law_dip : Kn P w K mg base ⟨K, T, none⟩ 1 "_law_dip" s__law_dip ["well", "many"] 2 d_dip) (kn__law_one : Kn P w K mg base ⟨K, T, none⟩ 2 "_law_one" s__law_one ["well", "some"] 2 d__law_one) {f : Addr} {fd : FuncData} (F : Fun K "_law_asks" "_law_asks" s__law_asks f fd) : FnG P w K mg base CX0 3 f fd ["well", "shelf", "most"] (spD ⟨K, T, none⟩ 3 d__law_asks) :=
  fn_ok (k := 2) F sc__law_asks rfl fun cdv A outer s H aw S hr => ⟨t__law_asks, (js_cons (js_set (i := 3) (fun te h => ps_set (i := 3) sc__law_asks.nd rfl (Or.inr rfl) h) (je_if (jt_cmp (op_deq rfl (hu1 hr)) (je_callN kn__law_dip hr (by decide) (fun F => b__law_dip F) rfl (ja_cons (je_v 0 rfl (vC rfl)) (ja_cons je_int ja_nil))) je_int (nomark _)) (je_sl rfl (je_v 1 rfl (vL rfl)) jo_none (jo_some (je_op (op_dadd rfl) je_int (je_callN kn__law_dip hr (by decide) (fun F => b__law_dip F) rfl (ja_cons (je_v 0 rfl (vC rfl)) (ja_cons (je_cb (cr_dlen rfl) rfl gl.len boot_len (jb_cons (je_v 1 rfl (vL rfl)) jb_nil)) ja_nil)))))) (je_v 1 rfl (vL rfl))))
    (js_one (js_ret (je_cty (cr_dtuple rfl) rfl gl.tuple boot_tuple (jb_cons (je_lc (own := [("turn", 4)]) rfl sc__law_asks.nd (ji_range1 (full := true) rfl gl.range (jb_cons (je_callN kn__law_dip hr (by decide) (fun F => b__law_dip F) rfl (ja_cons (je_v 0 rfl (vC rfl)) (ja_cons (je_op (op_dadd rfl) (je_v 2 rfl (vL rfl)) je_int) ja_nil))) jb_nil)) (blkOk_by (by rfl)) (fun _ _ _ _ _ _ => (jg_name (pg_name (i := 4) sc__law_asks.nd rfl (Or.inl rfl)))) (fun _ _ _ _ _ _ => jts_nil) (fun _ _ _ _ _ _ => (je_callN kn__law_one hr (by decide) (fun F => b__law_one F) rfl (ja_cons (je_v 0 rfl (vC rfl)) (ja_cons (je_v 3 rfl (vC rfl)) ja_nil))))) jb_nil))))), fun ds P _ h => h⟩
theorem ok_is_word (gl : Gl0 K mg) {f : Addr} {fd : FuncData} (F : Fun K "is_word" "is_word" s_is_word f fd) : FnG P w K mg base CX0 1 f fd ["value"] (spD ⟨K, T, none⟩ 1 d_is_word) :=
  fn_ok (k := 0) F sc_is_word rfl fun cdv A outer s H aw S hr => ⟨t_is_word, (js_one (js_ret (je_and (je_isi (T := "str") rfl (je_v 0 rfl (vL rfl)) rfl gl.isinstance (pe_bltn (v := .ty "str") rfl gl.str boot_str rfl) boot_isinstance) (je_and (je_cmp (op_dne rfl (hu1 hr)) (je_v 0 rfl (vL rfl)) je_str (nomark _)) (je_one (je_cb (cr_dall rfl) rfl gl.all boot_all (jb_cons (je_lc (own := [("sign", 1)]) rfl sc_is_word.nd (ji_str (full := true) (je_v 0 rfl (vL rfl))) (blkOk_by (by rfl)) (fun _ _ _ _ _ _ => (jg_name (pg_name (i := 1) sc_is_word.nd rfl (Or.inl rfl)))) (fun _ _ _ _ _ _ => jts_nil) (fun _ _ _ _ _ _ => (je_cmp (op_din rfl) (je_v 1 rfl (vL rfl)) (je_gstr rfl gl.c_SMALL) (by with_unfolding_all rfl)))) jb_nil))))))), fun ds P _ h => h⟩
theorem ok_is_name (gl : Gl0 K mg) (kn_is_word : Kn P w K mg base ⟨K, T, none⟩ 1 "is_word" s_is_word ["value"] 1 d_is_word) {f : Addr} {fd : FuncData} (F : Fun K "is_name" "is_name" s_is_name f fd) : FnG P w K mg base CX0 2 f fd ["value"] (spD ⟨K, T, none⟩ 1 d_is_name) :=
  fn_ok (k := 1) F sc_is_name rfl fun cdv A outer s H aw S hr => ⟨t_is_name, (js_one (js_ret (je_and (je_callN kn_is_word hr (by decide) (fun F => b_is_word F) rfl (ja_cons (je_v 0 rfl (vL rfl)) ja_nil)) (je_and (je_cmp op_dle (je_cb (cr_dlen rfl) rfl gl.len boot_len (jb_cons (je_v 0 rfl (vL rfl)) jb_nil)) (je_gint rfl gl.c_MOST_SIGNS) (nomark _)) (je_one (je_cmp (op_dnotin rfl) (je_v 0 rfl (vL rfl)) (je_gtupX rfl gl.c_WORDS rfl) (by with_unfolding_all rfl))))))), fun ds P _ h => h⟩
theorem ok_is_shelf_form (gl : Gl0 K mg) (kn_is_name : Kn P w K mg base ⟨K, T, none⟩ 2 "is_name" s_is_name ["value"] 1 d_is_name) {f : Addr} {fd : FuncData} (F : Fun K "is_shelf_form" "is_shelf_form" s_is_shelf_form f fd) : FnG P w K mg base CX0 3 f fd ["value"] (spD ⟨K, T, none⟩ 1 d_is_shelf_form) :=
  fn_ok (k := 2) F sc_is_shelf_form rfl fun cdv A outer s H aw S hr => ⟨t_is_shelf_form, (js_cons (js_if (L2.PW.pt (jw_or (jt_not (jt_val (je_isi (T := "tuple") rfl (je_v 0 rfl (vC rfl)) rfl gl.isinstance (pe_bltn (v := .ty "tuple") rfl gl.tuple boot_tuple rfl) boot_isinstance))) (jw_or (jt_not (jt_chain op_dle op_dle je_int (je_cb (cr_dlen rfl) rfl gl.len boot_len (jb_cons (je_v 0 rfl (vC rfl)) jb_nil)) (je_gint rfl gl.c_MOST_BOOKS))) (jw_or1 (jt_not (jt_val (je_cb (cr_dall rfl) rfl gl.all boot_all (jb_cons (je_lc (own := [("book", 1)]) rfl sc_is_shelf_form.nd (ji_sq rfl (je_v 0 rfl (vC rfl))) (blkOk_by (by rfl)) (fun _ _ _ _ _ _ => (jg_name (pg_name (i := 1) sc_is_shelf_form.nd rfl (Or.inl rfl)))) (fun _ _ _ _ _ _ => jts_nil) (fun _ _ _ _ _ _ => (je_callN kn_is_name hr (by decide) (fun F => b_is_name F) rfl (ja_cons (je_v 1 rfl (vL rfl)) ja_nil)))) jb_nil)))))))) (js_one (js_ret je_bl)) js_nil)
    (js_one (js_ret (je_cb (cr_dall rfl) rfl gl.all boot_all (jb_cons (je_lc (own := [("book", 1)]) rfl sc_is_shelf_form.nd (ji_sq rfl (je_v 0 rfl (vC rfl))) (blkOk_by (by rfl)) (fun _ _ _ _ _ _ => (jg_name (pg_name (i := 1) sc_is_shelf_form.nd rfl (Or.inl rfl)))) (fun _ _ _ _ _ _ => jts_nil) (fun _ _ _ _ _ _ => (je_cmp (op_deq rfl (hu1 hr)) (je_meth (T := "tuple") rfl PySem.F.plainAttrs_tuple PySem.F.slot_tuple_count PySem.F.type_tuple_count (mt_dcountT rfl) (je_v 0 rfl (vC rfl)) (jb_cons (je_v 1 rfl (vL rfl)) jb_nil)) je_int (nomark _)))) jb_nil))))), fun ds P _ h => h⟩
theorem ok_check_shelf (gl : Gl0 K mg) (kn_is_shelf_form : Kn P w K mg base ⟨K, T, none⟩ 3 "is_shelf_form" s_is_shelf_form ["value"] 1 d_is_shelf_form) {f : Addr} {fd : FuncData} (F : Fun K "check_shelf" "check_shelf" s_check_shelf f fd) : FnG P w K mg base CX0 4 f fd ["value"] (spD ⟨K, T, none⟩ 1 d_check_shelf) :=
  fn_ok (k := 3) F sc_check_shelf rfl fun cdv A outer s H aw S hr => ⟨t_check_shelf, (js_one (js_if (jt_not (jt_val (je_callN kn_is_shelf_form hr (by decide) (fun F => b_is_shelf_form F) rfl (ja_cons (je_v 0 rfl (vL rfl)) ja_nil)))) (js_one js_never) js_nil)), fun ds P _ h => h⟩
theorem ok_wrong_at (gl : Gl0 K mg) {f : Addr} {fd : FuncData} (F : Fun K "wrong_at" "wrong_at" s_wrong_at f fd) : FnW P w K mg base ⟨K, T, none⟩ 7 f fd ["value", "is_right"] 6 dw_wrong_at :=
  fnW_ok (k := 6) F sc_wrong_at fun cdv A outer s H aw S f n df hr clo => ⟨t_wrong_at f n df, (js_cons (js_if (jt_not (jt_val (je_isi (T := "tuple") rfl (je_v 0 rfl (vL rfl)) rfl gl.isinstance (pe_bltn (v := .ty "tuple") rfl gl.tuple boot_tuple rfl) boot_isinstance))) (js_one (js_ret (je_lst (ja_cons je_non ja_nil)))) js_nil)
    (js_cons (js_for PassesOwn.never rfl (ji_enum rfl rfl gl.enumerate (ja_cons (je_v 0 rfl (vL rfl)) ja_nil)) (jg_tup rfl rfl (jgs_cons (jg_name (pg_name (i := 2) sc_wrong_at.nd rfl (Or.inl rfl))) (jgs_cons (jg_name (pg_name (i := 3) sc_wrong_at.nd rfl (Or.inl rfl))) jgs_nil))) (js_one (js_if (jt_not (jt_val (je_hook rfl clo rfl (hr.mono (by decide)) pass0 (vr 1 rfl (vL rfl)) (ja_cons (je_v 3 rfl (vL rfl)) (ja_cons (je_sl rfl (je_v 0 rfl (vL rfl)) jo_none (jo_some (je_v 2 rfl (vL rfl)))) ja_nil))))) (js_one (js_ret (je_lst (ja_cons (je_v 2 rfl (vL rfl)) ja_nil)))) js_nil)))
    (js_one (js_ret (je_lst ja_nil))))), fun ds P _ h => h⟩
theorem ok_is_one_of (gl : Gl0 K mg) {f : Addr} {fd : FuncData} (F : Fun K "is_one_of" "is_one_of" s_is_one_of f fd) : FnG P w K mg base CX0 1 f fd ["value", "words"] (spD ⟨K, T, none⟩ 2 d_is_one_of) :=
  fn_ok (k := 0) F sc_is_one_of rfl fun cdv A outer s H aw S hr => ⟨t_is_one_of, (js_one (js_ret (je_and (je_isi (T := "str") rfl (je_v 0 rfl (vL rfl)) rfl gl.isinstance (pe_bltn (v := .ty "str") rfl gl.str boot_str rfl) boot_isinstance) (je_one (je_cmp (op_din rfl) (je_v 0 rfl (vL rfl)) (je_v 1 rfl (vL rfl)) (by with_unfolding_all rfl)))))), fun ds P _ h => h⟩
theorem ok_wrong_askings (gl : Gl0 K mg) (kn_wrong_at : KnW P w K mg base ⟨K, T, none⟩ 7 6 "wrong_at" s_wrong_at ["value", "is_right"] dw_wrong_at) (kn_is_one_of : Kn P w K mg base ⟨K, T, none⟩ 1 "is_one_of" s_is_one_of ["value", "words"] 2 d_is_one_of) {f : Addr} {fd : FuncData} (F : Fun K "wrong_askings" "wrong_askings" s_wrong_askings f fd) {c Pt : Addr} {nm : Nat → Nat → Str} (mkC : fd.code = .ref c) (mkTB : TabB base mg c Pt) (mkT : (Pt, nm) ∈ T) (mkN : nm = fun _ _ => ("wrong_askings.<locals>.<lambda>" : Str)) (mkU : ∀ p ∈ T, p.1 = Pt → p.2 = nm) : FnG P w K mg base CX0 8 f fd ["shelf", "value", "most"] (spD ⟨K, T, none⟩ 3 d_wrong_askings) := by
  subst mkN
  exact fn_okC (k := 7) F sc_wrong_askings rfl fun A outer s H aw S hr => ⟨t_wrong_askings, (js_one (js_ret (je_lamWN kn_wrong_at hr (by decide) (fun F => b_wrong_at F) rfl (pal_cons (je_v 1 rfl (vL rfl)) (pal_end (ps := ["each", "before"]) (fr := ["most", "shelf"]) (N := ["each", "before", "most", "shelf"]) (js := [2, 0]) ⟨⟨_, _, _, mkTB, mkC, mkT, rfl, mkU⟩, fun _ => rfl, rfl, nscope_by (by decide +kernel), lamFk (by rfl), by decide +kernel, rfl, fun _ _ _ _ _ us hl => by match us, hl with | [_, _], _ => rfl⟩ (fun _ _ _ _ _ _ _ hr' => (je_and (je_cmp op_dlt (je_cb (cr_dlen rfl) rfl gl.len boot_len (jb_cons (je_v 1 rfl (vL rfl)) jb_nil)) (je_v 2 rfl (vF rfl)) (nomark _)) (je_one (je_callN kn_is_one_of hr' (by decide) (fun F => b_is_one_of F) rfl (ja_cons (je_v 0 rfl (vL rfl)) (ja_cons (je_v 3 rfl (vF rfl)) ja_nil)))))) (by intro z; cases z)))))), fun ds P _ h => h⟩
theorem ok_check_askings_of (gl : Gl0 K mg) (kn_wrong_askings : Kn P w K mg base ⟨K, T, none⟩ 8 "wrong_askings" s_wrong_askings ["shelf", "value", "most"] 3 d_wrong_askings) {f : Addr} {fd : FuncData} (F : Fun K "check_askings_of" "check_askings_of" s_check_askings_of f fd) : FnG P w K mg base CX0 9 f fd ["shelf", "value"] (spD ⟨K, T, none⟩ 2 d_check_askings_of) :=
  fn_ok (k := 8) F sc_check_askings_of rfl fun cdv A outer s H aw S hr => ⟨t_check_askings_of, (js_one (js_for PassesOwn.never rfl (ji_sq rfl (je_callN kn_wrong_askings hr (by decide) (fun F => b_wrong_askings F) rfl (ja_cons (je_v 0 rfl (vL rfl)) (ja_cons (je_v 1 rfl (vL rfl)) (ja_cons (je_gint rfl gl.c_MOST_ASKINGS) ja_nil))))) (jg_name (pg_name (i := 2) sc_check_askings_of.nd rfl (Or.inl rfl))) (js_one js_never))), fun ds P _ h => h⟩
theorem ok_check_asked (gl : Gl0 K mg) (kn_check_shelf : Kn P w K mg base ⟨K, T, none⟩ 4 "check_shelf" s_check_shelf ["value"] 1 d_check_shelf) (kn_check_askings_of : Kn P w K mg base ⟨K, T, none⟩ 9 "check_askings_of" s_check_askings_of ["shelf", "value"] 2 d_check_askings_of) {f : Addr} {fd : FuncData} (F : Fun K "check_asked" "check_asked" s_check_asked f fd) : FnG P w K mg base CX0 10 f fd ["shelf", "askings"] (spD ⟨K, T, none⟩ 2 d_check_asked) :=
  fn_ok (k := 9) F sc_check_asked rfl fun cdv A outer s H aw S hr => ⟨t_check_asked, (js_cons (js_expr (je_callN kn_check_shelf hr (by decide) (fun F => b_check_shelf F) rfl (ja_cons (je_v 0 rfl (vL rfl)) ja_nil)))
    (js_one (js_expr (je_callN kn_check_askings_of hr (by decide) (fun F => b_check_askings_of F) rfl (ja_cons (je_v 0 rfl (vL rfl)) (ja_cons (je_v 1 rfl (vL rfl)) ja_nil)))))), fun ds P _ h => h⟩
theorem ok_place_in (gl : Gl0 K mg) {f : Addr} {fd : FuncData} (F : Fun K "place_in" "place_in" s_place_in f fd) : FnG P w K mg base CX0 1 f fd ["shelf", "book"] (spD ⟨K, T, none⟩ 2 d_place_in) :=
  fn_ok (k := 0) F sc_place_in rfl fun cdv A outer s H aw S hr => ⟨t_place_in, (js_one (js_ret (je_op (op_dadd rfl) (je_meth (T := "tuple") rfl PySem.F.plainAttrs_tuple PySem.F.slot_tuple_index PySem.F.type_tuple_index (mt_dindexT rfl) (je_v 0 rfl (vL rfl)) (jb_cons (je_v 1 rfl (vL rfl)) jb_nil)) je_int))), fun ds P _ h => h⟩
theorem ok_set_ahead (gl : Gl0 K mg) {f : Addr} {fd : FuncData} (F : Fun K "set_ahead" "set_ahead" s_set_ahead f fd) : FnG P w K mg base CX0 1 f fd ["shelf", "book", "place"] (spD ⟨K, T, none⟩ 3 d_set_ahead) :=
  fn_ok (k := 0) F sc_set_ahead rfl fun cdv A outer s H aw S hr => ⟨t_set_ahead, (js_cons (js_setLc (i := 3) (hy := rfl) (hyl := rfl) (hsw := sw_true rfl rfl rfl rfl) (py := _) (own := [("own", 4)]) (hc := rfl) (hN := sc_set_ahead.nd) (hi :=  (ji_sq rfl (je_v 0 rfl (vL rfl)))) (ok := blkOk_by (by rfl)) (fun _ _ _ _ _ _ => (jg_name (pg_name (i := 4) sc_set_ahead.nd rfl (Or.inl rfl)))) (fun _ _ _ _ _ _ => (jts_one (jt_cmp (op_dne rfl (hu1 hr)) (je_v 4 rfl (vL rfl)) (je_v 1 rfl (vC rfl)) (nomark _)))) (fun _ _ _ _ _ _ => (je_v 4 rfl (vL rfl))))
    (js_one (js_ret (je_tup (ja_star rfl (je_sl rfl (je_v 3 rfl (vL rfl)) jo_none (jo_some (je_op (op_dsub) (je_v 2 rfl (vL rfl)) je_int))) (ja_cons (je_v 1 rfl (vC rfl)) (ja_star rfl (je_sl rfl (je_v 3 rfl (vL rfl)) (jo_some (je_op (op_dsub) (je_v 2 rfl (vL rfl)) je_int)) jo_none) ja_nil))))))), fun ds P _ h => h⟩
theorem ok_by_steps (gl : Gl0 K mg) (kn_place_in : Kn P w K mg base ⟨K, T, none⟩ 1 "place_in" s_place_in ["shelf", "book"] 2 d_place_in) (kn_set_ahead : Kn P w K mg base ⟨K, T, none⟩ 1 "set_ahead" s_set_ahead ["shelf", "book", "place"] 3 d_set_ahead) {f : Addr} {fd : FuncData} (F : Fun K "by_steps" "by_steps" s_by_steps f fd) : FnG P w K mg base CX0 2 f fd ["shelf", "askings"] (spD ⟨K, T, none⟩ 2 d_by_steps) :=
  fn_ok (k := 1) F sc_by_steps rfl fun cdv A outer s H aw S hr => ⟨t_by_steps, (js_cons (js_set (i := 2) (fun te h => ps_set (i := 2) sc_by_steps.nd rfl (Or.inl rfl) h) je_int)
    (js_cons (js_for PassesOwn.never rfl (ji_sq rfl (je_v 1 rfl (vL rfl))) (jg_name (pg_name (i := 3) sc_by_steps.nd rfl (Or.inl rfl))) (js_cons (js_set (i := 4) (fun te h => ps_set (i := 4) sc_by_steps.nd rfl (Or.inl rfl) h) (je_callN kn_place_in hr (by decide) (fun F => b_place_in F) rfl (ja_cons (je_v 0 rfl (vL rfl)) (ja_cons (je_v 3 rfl (vL rfl)) ja_nil))))
    (js_one (js_par (ks := [.d, .d]) rfl (fun ta h => ps_par (i := 2) (j := 0) rfl sc_by_steps.nd rfl rfl (by decide) rfl rfl h (by rfl)) (jkd (je_op (op_dadd rfl) (je_v 2 rfl (vL rfl)) (je_v 4 rfl (vL rfl))) (jkd (je_callN kn_set_ahead hr (by decide) (fun F => b_set_ahead F) rfl (ja_cons (je_v 0 rfl (vL rfl)) (ja_cons (je_v 3 rfl (vL rfl)) (ja_cons (je_cb (cr_dmax2 rfl) rfl gl.max boot_max (jb_cons je_int (jb_cons (je_op (op_dsub) (je_v 4 rfl (vL rfl)) je_int) jb_nil))) ja_nil)))) jk0))))))
    (js_one (js_ret (je_tup (ja_cons (je_v 0 rfl (vL rfl)) (ja_cons (je_v 2 rfl (vL rfl)) ja_nil))))))), fun ds P _ h => h⟩
theorem ok_stepped (gl : Gl0 K mg) (kn_check_asked : Kn P w K mg base ⟨K, T, none⟩ 10 "check_asked" s_check_asked ["shelf", "askings"] 2 d_check_asked) (kn_by_steps : Kn P w K mg base ⟨K, T, none⟩ 2 "by_steps" s_by_steps ["shelf", "askings"] 2 d_by_steps) {f : Addr} {fd : FuncData} (F : Fun K "stepped" "stepped" s_stepped f fd) : FnG P w K mg base CX0 11 f fd ["shelf", "askings"] (spD ⟨K, T, none⟩ 2 d_stepped) :=
  fn_ok (k := 10) F sc_stepped rfl fun cdv A outer s H aw S hr => ⟨t_stepped, (js_cons (js_expr (je_callN kn_check_asked hr (by decide) (fun F => b_check_asked F) rfl (ja_cons (je_v 0 rfl (vL rfl)) (ja_cons (je_v 1 rfl (vL rfl)) ja_nil))))
    (js_one (js_ret (je_ix rfl (je_callN kn_by_steps hr (by decide) (fun F => b_by_steps F) rfl (ja_cons (je_v 0 rfl (vL rfl)) (ja_cons (je_v 1 rfl (vL rfl)) ja_nil))) je_int)))), fun ds P _ h => h⟩
theorem ok_step_cost (gl : Gl0 K mg) (kn_check_asked : Kn P w K mg base ⟨K, T, none⟩ 10 "check_asked" s_check_asked ["shelf", "askings"] 2 d_check_asked) (kn_by_steps : Kn P w K mg base ⟨K, T, none⟩ 2 "by_steps" s_by_steps ["shelf", "askings"] 2 d_by_steps) {f : Addr} {fd : FuncData} (F : Fun K "step_cost" "step_cost" s_step_cost f fd) : FnG P w K mg base CX0 11 f fd ["shelf", "askings"] (spD ⟨K, T, none⟩ 2 d_step_cost) :=
  fn_ok (k := 10) F sc_step_cost rfl fun cdv A outer s H aw S hr => ⟨t_step_cost, (js_cons (js_expr (je_callN kn_check_asked hr (by decide) (fun F => b_check_asked F) rfl (ja_cons (je_v 0 rfl (vL rfl)) (ja_cons (je_v 1 rfl (vL rfl)) ja_nil))))
    (js_one (js_ret (je_ix rfl (je_callN kn_by_steps hr (by decide) (fun F => b_by_steps F) rfl (ja_cons (je_v 0 rfl (vL rfl)) (ja_cons (je_v 1 rfl (vL rfl)) ja_nil))) je_int)))), fun ds P _ h => h⟩
theorem ok__law_right (gl : Gl0 K mg) (kn__law_shelf : Kn P w K mg base ⟨K, T, none⟩ 4 "_law_shelf" s__law_shelf ["well", "most"] 2 d__law_shelf) (kn__law_asks : Kn P w K mg base ⟨K, T, none⟩ 3 "_law_asks" s__law_asks ["well", "shelf", "most"] 3 d__law_asks) (kn_stepped : Kn P w K mg base ⟨K, T, none⟩ 11 "stepped" s_stepped ["shelf", "askings"] 2 d_stepped) (kn_step_cost : Kn P w K mg base ⟨K, T, none⟩ 11 "step_cost" s_step_cost ["shelf", "askings"] 2 d_step_cost) {f : Addr} {fd : FuncData} (F : Fun K "_law_right" "_law_right" s__law_right f fd) : FnG P w K mg base CX0 12 f fd ["well"] (spD ⟨K, T, none⟩ 1 d__law_right) :=
  fn_ok (k := 11) F sc__law_right rfl fun cdv A outer s H aw S hr => ⟨t__law_right, (js_cons (js_for PassesOwn.never rfl (ji_range1 (full := true) rfl gl.range (jb_cons je_int jb_nil)) (jg_name (pg_name (i := 1) sc__law_right.nd rfl (Or.inl rfl))) (js_cons (js_set (i := 2) (fun te h => ps_set (i := 2) sc__law_right.nd rfl (Or.inl rfl) h) (je_callN kn__law_shelf hr (by decide) (fun F => b__law_shelf F) rfl (ja_cons (je_v 0 rfl (vL rfl)) (ja_cons je_int ja_nil))))
    (js_cons (js_par3 (ks := [.d, .o, .d]) rfl (fun ta h => ps_par3 (i := 3) (j := 4) (l := 5) rfl sc__law_right.nd rfl rfl rfl (by decide) (by decide) (by decide) rfl rfl rfl h (by rfl)) (jkd (je_callN kn__law_asks hr (by decide) (fun F => b__law_asks F) rfl (ja_cons (je_v 0 rfl (vL rfl)) (ja_cons (je_v 2 rfl (vL rfl)) (ja_cons je_int ja_nil)))) (jko (je_cty (cr_dlist rfl) rfl gl.list boot_list (jb_cons (je_v 2 rfl (vL rfl)) jb_nil)) (fun _ => (jkd je_int jk0)))))
    (js_cons (js_for PassesOwn.never rfl (ji_sq rfl (je_v 3 rfl (vL rfl))) (jg_name (pg_name (i := 6) sc__law_right.nd rfl (Or.inl rfl))) (js_cons (js_set (i := 7) (fun te h => ps_set (i := 7) sc__law_right.nd rfl (Or.inl rfl) h) (je_meth (T := "list") rfl PySem.F.plainAttrs_list PySem.F.slot_list_index PySem.F.type_list_index mt_dindexL (je_vO 4 rfl (vL rfl)) (jb_cons (je_v 6 rfl (vL rfl)) jb_nil)))
    (js_cons (js_set (i := 5) (fun te h => ps_set (i := 5) sc__law_right.nd rfl (Or.inl rfl) h) (je_op (op_dadd rfl) (je_op (op_dadd rfl) (je_v 5 rfl (vL rfl)) (je_v 7 rfl (vL rfl))) je_int))
    (js_one (js_if (jt_cmp op_dgt (je_v 7 rfl (vL rfl)) je_int (nomark _)) (js_one (js_asgM (je_tup (ja_cons (je_ix rfl (je_vO 4 rfl (vL rfl)) (je_v 7 rfl (vL rfl))) (ja_cons (je_ix rfl (je_vO 4 rfl (vL rfl)) (je_op (op_dsub) (je_v 7 rfl (vL rfl)) je_int)) ja_nil))) (jm_tup rfl rfl (jm_cons (jm_ix (i := 4) (vr 4 rfl (vL rfl)) (je_op (op_dsub) (je_v 7 rfl (vL rfl)) je_int)) (jm_cons (jm_ix (i := 4) (vr 4 rfl (vL rfl)) (je_v 7 rfl (vL rfl))) jm_nil))))) js_nil)))))
    (js_cons (js_set (i := 8) (fun te h => ps_set (i := 8) sc__law_right.nd rfl (Or.inl rfl) h) (je_cty (cr_dtuple rfl) rfl gl.tuple boot_tuple (jb_cons (je_vO 4 rfl (vL rfl)) jb_nil)))
    (js_cons (js_if (jt_cmp op_dneS (je_cb (cr_drepr rfl hr.gd (hu2 hr)) rfl gl.repr boot_repr (jb_cons (je_lst (ja_cons (je_callN kn_stepped hr (by decide) (fun F => b_stepped F) rfl (ja_cons (je_v 2 rfl (vL rfl)) (ja_cons (je_v 3 rfl (vL rfl)) ja_nil))) (ja_cons (je_callKN kn_stepped hr (by decide) (fun F => kb_stepped_1_0 F) rfl (jk_cons (je_v 3 rfl (vL rfl)) (jk_cons (je_v 2 rfl (vL rfl)) jk_nil))) ja_nil))) jb_nil)) (je_cb (cr_drepr rfl hr.gd (hu2 hr)) rfl gl.repr boot_repr (jb_cons (je_lst (ja_cons (je_v 8 rfl (vL rfl)) (ja_cons (je_v 8 rfl (vL rfl)) ja_nil))) jb_nil)) (nomark _)) (js_one (js_ret je_bl)) js_nil)
    (js_cons (js_if (jt_cmp op_dneS (je_cb (cr_drepr rfl hr.gd (hu2 hr)) rfl gl.repr boot_repr (jb_cons (je_lst (ja_cons (je_callN kn_step_cost hr (by decide) (fun F => b_step_cost F) rfl (ja_cons (je_v 2 rfl (vL rfl)) (ja_cons (je_v 3 rfl (vL rfl)) ja_nil))) (ja_cons (je_callKN kn_step_cost hr (by decide) (fun F => kb_step_cost_1_0 F) rfl (jk_cons (je_v 3 rfl (vL rfl)) (jk_cons (je_v 2 rfl (vL rfl)) jk_nil))) ja_nil))) jb_nil)) (je_cb (cr_drepr rfl hr.gd (hu2 hr)) rfl gl.repr boot_repr (jb_cons (je_lst (ja_cons (je_v 5 rfl (vL rfl)) (ja_cons (je_v 5 rfl (vL rfl)) ja_nil))) jb_nil)) (nomark _)) (js_one (js_ret je_bl)) js_nil)
    (js_one (js_if (jt_cmp (op_dne rfl (hu1 hr)) (je_callN kn_stepped hr (by decide) (fun F => b_stepped F) rfl (ja_cons (je_v 2 rfl (vL rfl)) (ja_cons (je_op (op_drep rfl) (je_tup (ja_cons (je_ix rfl (je_v 2 rfl (vL rfl)) je_int) ja_nil)) je_int) ja_nil))) (je_v 2 rfl (vL rfl)) (nomark _)) (js_one (js_ret je_bl)) js_nil)))))))))
    (js_one (js_ret je_bl))), fun ds P _ h => h⟩
theorem ok__law_well (gl : Gl0 K mg) {f : Addr} {fd : FuncData} (F : Fun K "_law_well" "_law_well" s__law_well f fd) : FnG P w K mg base CX0 1 f fd ["script", "k"] (spD ⟨K, T, none⟩ 2 d__law_well) :=
  fn_ok (k := 0) F sc__law_well rfl fun cdv A outer s H aw S hr => ⟨t__law_well, (js_cons (js_set (i := 2) (fun te h => ps_set (i := 2) sc__law_well.nd rfl (Or.inl rfl) h) (je_if (jt_cmp op_dlt (je_v 1 rfl (vL rfl)) (je_cb (cr_dlen rfl) rfl gl.len boot_len (jb_cons (je_v 0 rfl (vL rfl)) jb_nil)) (nomark _)) (je_cty cr_dint1 rfl gl.int boot_int (jb_cons (je_ix rfl (je_v 0 rfl (vL rfl)) (je_v 1 rfl (vL rfl))) jb_nil)) (je_op (op_dadd rfl) (je_op (op_dmul) je_int (je_v 1 rfl (vL rfl))) je_int)))
    (js_cons (js_set (i := 3) (fun te h => ps_set (i := 3) sc__law_well.nd rfl (Or.inl rfl) h) (je_op (op_dadd rfl) je_int (je_op (op_dmul) je_int (je_v 1 rfl (vL rfl)))))
    (js_cons (js_for PassesOwn.never rfl (ji_sq rfl (je_op (op_dadd rfl) (je_sl rfl (je_v 0 rfl (vL rfl)) jo_none (jo_some je_int)) (je_lst (ja_cons (je_v 2 rfl (vL rfl)) ja_nil)))) (jg_name (pg_name (i := 4) sc__law_well.nd rfl (Or.inl rfl))) (js_one (js_set (i := 3) (fun te h => ps_set (i := 3) sc__law_well.nd rfl (Or.inl rfl) h) (je_op (op_dmod) (je_cty cr_dint1 rfl gl.int boot_int (jb_cons (je_op (op_dadd rfl) (je_op (op_dadd rfl) (je_op (op_dmul) (je_v 3 rfl (vL rfl)) je_int) (je_op (op_dmod) (je_cty cr_dint1 rfl gl.int boot_int (jb_cons (je_v 4 rfl (vL rfl)) jb_nil)) je_int)) je_int) jb_nil)) je_int))))
    (js_one (js_ret (je_lst (ja_cons (je_if (L2.PW.pt (jw_or (jt_cmp op_dlt (je_v 2 rfl (vL rfl)) je_int (nomark _)) (jw_or1 (jt_cmp op_dge (je_v 2 rfl (vL rfl)) (je_op (op_dpow) je_int je_int) (nomark _))))) (je_cb cr_dabs rfl gl.abs boot_abs (jb_cons (je_v 2 rfl (vL rfl)) jb_nil)) je_int) (ja_cons (je_v 3 rfl (vL rfl)) (ja_cons je_int ja_nil))))))))), fun ds P _ h => h⟩
theorem ok__law_turns (gl : Gl0 K mg) {f : Addr} {fd : FuncData} (F : Fun K "_law_turns" "_law_turns" s__law_turns f fd) : FnG P w K mg base CX0 1 f fd ["script"] (spD ⟨K, T, none⟩ 1 d__law_turns) :=
  fn_ok (k := 0) F sc__law_turns rfl fun cdv A outer s H aw S hr => ⟨t__law_turns, (js_one (js_ret (je_listRg rfl rfl gl.list rfl gl.range (je_cb (cr_dmax2 rfl) rfl gl.max boot_max (jb_cons je_int (jb_cons (je_cb (cr_dmin2 rfl) rfl gl.min boot_min (jb_cons (je_cb (cr_dlen rfl) rfl gl.len boot_len (jb_cons (je_v 0 rfl (vL rfl)) jb_nil)) (jb_cons je_int jb_nil))) jb_nil)))))), fun ds P _ h => h⟩
theorem ok_law (gl : Gl0 K mg) (kn__law_right : Kn P w K mg base ⟨K, T, none⟩ 12 "_law_right" s__law_right ["well"] 1 d__law_right) (kn__law_well : Kn P w K mg base ⟨K, T, none⟩ 1 "_law_well" s__law_well ["script", "k"] 2 d__law_well) (kn__law_turns : Kn P w K mg base ⟨K, T, none⟩ 1 "_law_turns" s__law_turns ["script"] 1 d__law_turns) {f : Addr} {fd : FuncData} (F : Fun K "law" "law" s_law f fd) : FnG P w K mg base CX0 13 f fd ["script"] (spC ⟨K, T, none⟩ 1 d_law) :=
  fn_okN (k := 12) F sc_law rfl fun A outer s H S hr => ⟨t_law, (js_one (js_ret (je_cb (cr_dall rfl) rfl gl.all boot_all (jb_cons (je_lc (own := [("k", 1)]) rfl sc_law.nd (ji_sq rfl (je_callN kn__law_turns hr (by decide) (fun F => b__law_turns F) rfl (ja_cons (je_v 0 rfl (vC rfl)) ja_nil))) (blkOk_by (by rfl)) (fun _ _ _ _ _ _ => (jg_name (pg_name (i := 1) sc_law.nd rfl (Or.inl rfl)))) (fun _ _ _ _ _ _ => jts_nil) (fun _ _ _ _ _ _ => (je_well kn__law_well kn__law_right hr (by decide) (by decide) (fun F => b__law_well F) (fun F => b__law_right F) rfl rfl (ja_cons (je_v 0 rfl (vC rfl)) (ja_cons (je_v 1 rfl (vL rfl)) ja_nil)) rfl))) jb_nil)))), fun ds P _ h => h⟩
end
end K55

set_option Elab.async false
set_option linter.all false
set_option maxRecDepth 100000
set_option maxHeartbeats 0
namespace K55
open PySem PySem.Spec PyProof.Rows L2 NdefX LamX DL
def dd__law_dip : He.DefD := ⟨("_law_dip", none), "_law_dip", "_law_dip", defArgs s__law_dip, defBody s__law_dip, defScope s__law_dip, [], []⟩
def dd__law_one : He.DefD := ⟨("_law_one", none), "_law_one", "_law_one", defArgs s__law_one, defBody s__law_one, defScope s__law_one, [], []⟩
def dd__law_words : He.DefD := ⟨("_law_words", none), "_law_words", "_law_words", defArgs s__law_words, defBody s__law_words, defScope s__law_words, [], []⟩
def dd__law_shelf : He.DefD := ⟨("_law_shelf", none), "_law_shelf", "_law_shelf", defArgs s__law_shelf, defBody s__law_shelf, defScope s__law_shelf, [], []⟩
def dd__law_asks : He.DefD := ⟨("_law_asks", none), "_law_asks", "_law_asks", defArgs s__law_asks, defBody s__law_asks, defScope s__law_asks, [], []⟩
def dd_is_word : He.DefD := ⟨("is_word", none), "is_word", "is_word", defArgs s_is_word, defBody s_is_word, defScope s_is_word, [], []⟩
def dd_is_name : He.DefD := ⟨("is_name", none), "is_name", "is_name", defArgs s_is_name, defBody s_is_name, defScope s_is_name, [], []⟩
def dd_is_shelf_form : He.DefD := ⟨("is_shelf_form", none), "is_shelf_form", "is_shelf_form", defArgs s_is_shelf_form, defBody s_is_shelf_form, defScope s_is_shelf_form, [], []⟩
def dd_check_shelf : He.DefD := ⟨("check_shelf", none), "check_shelf", "check_shelf", defArgs s_check_shelf, defBody s_check_shelf, defScope s_check_shelf, [], []⟩
def dd_wrong_at : He.DefD := ⟨("wrong_at", none), "wrong_at", "wrong_at", defArgs s_wrong_at, defBody s_wrong_at, defScope s_wrong_at, [], []⟩
def dd_is_one_of : He.DefD := ⟨("is_one_of", none), "is_one_of", "is_one_of", defArgs s_is_one_of, defBody s_is_one_of, defScope s_is_one_of, [], []⟩
def dd_wrong_askings : He.DefD := ⟨("wrong_askings", none), "wrong_askings", "wrong_askings", defArgs s_wrong_askings, defBody s_wrong_askings, defScope s_wrong_askings, [], []⟩
def dd_check_askings_of : He.DefD := ⟨("check_askings_of", none), "check_askings_of", "check_askings_of", defArgs s_check_askings_of, defBody s_check_askings_of, defScope s_check_askings_of, [], []⟩
def dd_check_asked : He.DefD := ⟨("check_asked", none), "check_asked", "check_asked", defArgs s_check_asked, defBody s_check_asked, defScope s_check_asked, [], []⟩
def dd_place_in : He.DefD := ⟨("place_in", none), "place_in", "place_in", defArgs s_place_in, defBody s_place_in, defScope s_place_in, [], []⟩
def dd_set_ahead : He.DefD := ⟨("set_ahead", none), "set_ahead", "set_ahead", defArgs s_set_ahead, defBody s_set_ahead, defScope s_set_ahead, [], []⟩
def dd_by_steps : He.DefD := ⟨("by_steps", none), "by_steps", "by_steps", defArgs s_by_steps, defBody s_by_steps, defScope s_by_steps, [], []⟩
def dd_stepped : He.DefD := ⟨("stepped", none), "stepped", "stepped", defArgs s_stepped, defBody s_stepped, defScope s_stepped, [], []⟩
def dd_step_cost : He.DefD := ⟨("step_cost", none), "step_cost", "step_cost", defArgs s_step_cost, defBody s_step_cost, defScope s_step_cost, [], []⟩
def dd__law_right : He.DefD := ⟨("_law_right", none), "_law_right", "_law_right", defArgs s__law_right, defBody s__law_right, defScope s__law_right, [], []⟩
def dd__law_well : He.DefD := ⟨("_law_well", none), "_law_well", "_law_well", defArgs s__law_well, defBody s__law_well, defScope s__law_well, [], []⟩
def dd__law_turns : He.DefD := ⟨("_law_turns", none), "_law_turns", "_law_turns", defArgs s__law_turns, defBody s__law_turns, defScope s__law_turns, [], []⟩
def dd_law : He.DefD := ⟨("law", none), "law", "law", defArgs s_law, defBody s_law, defScope s_law, [], []⟩
def hfn : List He.DefD := [dd__law_dip, dd__law_one, dd__law_words, dd__law_shelf, dd__law_asks, dd_is_word, dd_is_name, dd_is_shelf_form, dd_check_shelf, dd_wrong_at, dd_is_one_of, dd_wrong_askings, dd_check_askings_of, dd_check_asked, dd_place_in, dd_set_ahead, dd_by_steps, dd_stepped, dd_step_cost, dd__law_right, dd__law_well, dd__law_turns, dd_law]
def hfa0 : List He.Fa := [.glo "_law_dip", .glo "_law_one", .glo "_law_words", .glo "_law_shelf", .glo "_law_asks", .glo "is_word", .glo "is_name", .glo "is_shelf_form", .glo "check_shelf", .glo "wrong_at", .glo "is_one_of", .glo "wrong_askings", .glo "check_askings_of", .glo "check_asked", .glo "place_in", .glo "set_ahead", .glo "by_steps", .glo "stepped", .glo "step_cost", .glo "_law_right", .glo "_law_well", .glo "_law_turns", .glo "law", .free "abs", .free "all", .free "divmod", .free "enumerate", .free "int", .free "isinstance", .free "len"]
def hfa1 : List He.Fa := [.free "list", .free "max", .free "min", .free "range", .free "repr", .free "str", .free "tuple", .int "MOST_ASKINGS" 30, .int "MOST_BOOKS" 7, .int "MOST_SIGNS" 8, .str "SMALL" "abcdefghijklmnopqrstuvwxyz", .glo "WORDS"]
def hfa : List He.Fa := hfa0 ++ hfa1
def htf : List He.Defn := [("wrong_askings", none)]
def w_WORDS : List Str := (["ahead", "all", "as", "ask", "at", "behind", "book", "by", "code", "cost", "end", "first", "fixed", "front", "in", "is", "last", "leave", "never", "next", "none", "of", "order", "place", "put", "shelf", "step", "take", "times", "to", "undo", "with"] : List String).map Str.ofString
def hex (K : PySem.W.Frag) : Bool := tupD K "WORDS" w_WORDS
abbrev R : PySem.W.OpenRow := PySem.W.OpenLaw.row PySem.Challenge.rw_frontshelf_k55_whole_step_rule
abbrev hk : PySem.W.Hook := He.hookX 5 hfa hfn [] htf hex
def hob (s : PySem.W.SharedT) : He.AlX := He.obsX 5 hfa hfn [] htf hex (HandSHeadRun.getT s)
theorem hob_eq (s : PySem.W.SharedT) : hob s = hk.obs s.abs := He.obsX_eq (HandSHeadRun.getT_eq s)
def nms0 : List PySem.Str := ["ShelfError", "InvalidShelf", "InvalidAskings", "SMALL", "MOST_SIGNS", "WORDS", "wrong_at", "is_one_of", "is_word", "is_name", "MOST_BOOKS", "MOST_ASKINGS", "is_shelf_form", "wrong_askings", "place_in", "check_shelf", "check_askings_of", "check_asked", "set_ahead", "by_steps", "stepped", "step_cost", "_law_well", "_law_dip", "_law_one", "_law_turns", "_law_words", "_law_shelf", "_law_asks", "_law_right"]
def nms : List PySem.Str := nms0
theorem hrun (w : World) : HandSHeadRun.RunEq R (PySem.W.view R.prog [37]) hk hob 8000 nms w := by
  intro os
  kernel_rfl
def Ts (K : PySem.W.Frag) : List NTab := [((He.cT K ("wrong_askings", none)).2, fun _ _ => ("wrong_askings.<locals>.<lambda>" : Str))]
theorem law_facts {P : Program} {w : World} {K : PySem.W.Frag} {h : Heap} {mg : Str → Option Value} {f : Addr} (X : K.In h) (G : h.Ns mainGlobals mg) (hfm : mg ("law" : Str) = some (.ref f)) (c : He.SaysX hfa hfn [] htf hex w h K) :
    ∃ fd : FuncData, (∀ (s : Shared) (v : Value), BindsTo s fd ⟨[v], []⟩ [("script", v)]) ∧ ∀ base : Heap, K.In base → base.Ns mainGlobals mg → (∀ p ∈ htf.map (He.cT K), TabB base mg p.1 p.2) → FnG P w K mg base CX0 13 f fd ["script"] (spC ⟨K, Ts K, none⟩ 1 d_law) := by
  have cd := c.t.d
  obtain ⟨fd__law_dip, F0__law_dip⟩ := cd.def_ 0 (d := dd__law_dip) rfl
  have F__law_dip : Fun K "_law_dip" "_law_dip" s__law_dip (He.fAd K ("_law_dip", none)) fd__law_dip := fun_of F0__law_dip
  have m__law_dip : mg "_law_dip" = some (.ref (He.fAd K ("_law_dip", none))) := He.glo_ok X G (cd.fact 0 (f := .glo "_law_dip") rfl)
  obtain ⟨fd__law_one, F0__law_one⟩ := cd.def_ 1 (d := dd__law_one) rfl
  have F__law_one : Fun K "_law_one" "_law_one" s__law_one (He.fAd K ("_law_one", none)) fd__law_one := fun_of F0__law_one
  have m__law_one : mg "_law_one" = some (.ref (He.fAd K ("_law_one", none))) := He.glo_ok X G (cd.fact 1 (f := .glo "_law_one") rfl)
  obtain ⟨fd__law_words, F0__law_words⟩ := cd.def_ 2 (d := dd__law_words) rfl
  have F__law_words : Fun K "_law_words" "_law_words" s__law_words (He.fAd K ("_law_words", none)) fd__law_words := fun_of F0__law_words
  have m__law_words : mg "_law_words" = some (.ref (He.fAd K ("_law_words", none))) := He.glo_ok X G (cd.fact 2 (f := .glo "_law_words") rfl)
  obtain ⟨fd__law_shelf, F0__law_shelf⟩ := cd.def_ 3 (d := dd__law_shelf) rfl
  have F__law_shelf : Fun K "_law_shelf" "_law_shelf" s__law_shelf (He.fAd K ("_law_shelf", none)) fd__law_shelf := fun_of F0__law_shelf
  have m__law_shelf : mg "_law_shelf" = some (.ref (He.fAd K ("_law_shelf", none))) := He.glo_ok X G (cd.fact 3 (f := .glo "_law_shelf") rfl)
  obtain ⟨fd__law_asks, F0__law_asks⟩ := cd.def_ 4 (d := dd__law_asks) rfl
  have F__law_asks : Fun K "_law_asks" "_law_asks" s__law_asks (He.fAd K ("_law_asks", none)) fd__law_asks := fun_of F0__law_asks
  have m__law_asks : mg "_law_asks" = some (.ref (He.fAd K ("_law_asks", none))) := He.glo_ok X G (cd.fact 4 (f := .glo "_law_asks") rfl)
  obtain ⟨fd_is_word, F0_is_word⟩ := cd.def_ 5 (d := dd_is_word) rfl
  have F_is_word : Fun K "is_word" "is_word" s_is_word (He.fAd K ("is_word", none)) fd_is_word := fun_of F0_is_word
  have m_is_word : mg "is_word" = some (.ref (He.fAd K ("is_word", none))) := He.glo_ok X G (cd.fact 5 (f := .glo "is_word") rfl)
  obtain ⟨fd_is_name, F0_is_name⟩ := cd.def_ 6 (d := dd_is_name) rfl
  have F_is_name : Fun K "is_name" "is_name" s_is_name (He.fAd K ("is_name", none)) fd_is_name := fun_of F0_is_name
  have m_is_name : mg "is_name" = some (.ref (He.fAd K ("is_name", none))) := He.glo_ok X G (cd.fact 6 (f := .glo "is_name") rfl)
  obtain ⟨fd_is_shelf_form, F0_is_shelf_form⟩ := cd.def_ 7 (d := dd_is_shelf_form) rfl
  have F_is_shelf_form : Fun K "is_shelf_form" "is_shelf_form" s_is_shelf_form (He.fAd K ("is_shelf_form", none)) fd_is_shelf_form := fun_of F0_is_shelf_form
  have m_is_shelf_form : mg "is_shelf_form" = some (.ref (He.fAd K ("is_shelf_form", none))) := He.glo_ok X G (cd.fact 7 (f := .glo "is_shelf_form") rfl)
  obtain ⟨fd_check_shelf, F0_check_shelf⟩ := cd.def_ 8 (d := dd_check_shelf) rfl
  have F_check_shelf : Fun K "check_shelf" "check_shelf" s_check_shelf (He.fAd K ("check_shelf", none)) fd_check_shelf := fun_of F0_check_shelf
  have m_check_shelf : mg "check_shelf" = some (.ref (He.fAd K ("check_shelf", none))) := He.glo_ok X G (cd.fact 8 (f := .glo "check_shelf") rfl)
  obtain ⟨fd_wrong_at, F0_wrong_at⟩ := cd.def_ 9 (d := dd_wrong_at) rfl
  have F_wrong_at : Fun K "wrong_at" "wrong_at" s_wrong_at (He.fAd K ("wrong_at", none)) fd_wrong_at := fun_of F0_wrong_at
  have m_wrong_at : mg "wrong_at" = some (.ref (He.fAd K ("wrong_at", none))) := He.glo_ok X G (cd.fact 9 (f := .glo "wrong_at") rfl)
  obtain ⟨fd_is_one_of, F0_is_one_of⟩ := cd.def_ 10 (d := dd_is_one_of) rfl
  have F_is_one_of : Fun K "is_one_of" "is_one_of" s_is_one_of (He.fAd K ("is_one_of", none)) fd_is_one_of := fun_of F0_is_one_of
  have m_is_one_of : mg "is_one_of" = some (.ref (He.fAd K ("is_one_of", none))) := He.glo_ok X G (cd.fact 10 (f := .glo "is_one_of") rfl)
  obtain ⟨fd_wrong_askings, F0_wrong_askings⟩ := cd.def_ 11 (d := dd_wrong_askings) rfl
  have F_wrong_askings : Fun K "wrong_askings" "wrong_askings" s_wrong_askings (He.fAd K ("wrong_askings", none)) fd_wrong_askings := fun_of F0_wrong_askings
  have m_wrong_askings : mg "wrong_askings" = some (.ref (He.fAd K ("wrong_askings", none))) := He.glo_ok X G (cd.fact 11 (f := .glo "wrong_askings") rfl)
  obtain ⟨fd_check_askings_of, F0_check_askings_of⟩ := cd.def_ 12 (d := dd_check_askings_of) rfl
  have F_check_askings_of : Fun K "check_askings_of" "check_askings_of" s_check_askings_of (He.fAd K ("check_askings_of", none)) fd_check_askings_of := fun_of F0_check_askings_of
  have m_check_askings_of : mg "check_askings_of" = some (.ref (He.fAd K ("check_askings_of", none))) := He.glo_ok X G (cd.fact 12 (f := .glo "check_askings_of") rfl)
  obtain ⟨fd_check_asked, F0_check_asked⟩ := cd.def_ 13 (d := dd_check_asked) rfl
  have F_check_asked : Fun K "check_asked" "check_asked" s_check_asked (He.fAd K ("check_asked", none)) fd_check_asked := fun_of F0_check_asked
  have m_check_asked : mg "check_asked" = some (.ref (He.fAd K ("check_asked", none))) := He.glo_ok X G (cd.fact 13 (f := .glo "check_asked") rfl)
  obtain ⟨fd_place_in, F0_place_in⟩ := cd.def_ 14 (d := dd_place_in) rfl
  have F_place_in : Fun K "place_in" "place_in" s_place_in (He.fAd K ("place_in", none)) fd_place_in := fun_of F0_place_in
  have m_place_in : mg "place_in" = some (.ref (He.fAd K ("place_in", none))) := He.glo_ok X G (cd.fact 14 (f := .glo "place_in") rfl)
  obtain ⟨fd_set_ahead, F0_set_ahead⟩ := cd.def_ 15 (d := dd_set_ahead) rfl
  have F_set_ahead : Fun K "set_ahead" "set_ahead" s_set_ahead (He.fAd K ("set_ahead", none)) fd_set_ahead := fun_of F0_set_ahead
  have m_set_ahead : mg "set_ahead" = some (.ref (He.fAd K ("set_ahead", none))) := He.glo_ok X G (cd.fact 15 (f := .glo "set_ahead") rfl)
  obtain ⟨fd_by_steps, F0_by_steps⟩ := cd.def_ 16 (d := dd_by_steps) rfl
  have F_by_steps : Fun K "by_steps" "by_steps" s_by_steps (He.fAd K ("by_steps", none)) fd_by_steps := fun_of F0_by_steps
  have m_by_steps : mg "by_steps" = some (.ref (He.fAd K ("by_steps", none))) := He.glo_ok X G (cd.fact 16 (f := .glo "by_steps") rfl)
  obtain ⟨fd_stepped, F0_stepped⟩ := cd.def_ 17 (d := dd_stepped) rfl
  have F_stepped : Fun K "stepped" "stepped" s_stepped (He.fAd K ("stepped", none)) fd_stepped := fun_of F0_stepped
  have m_stepped : mg "stepped" = some (.ref (He.fAd K ("stepped", none))) := He.glo_ok X G (cd.fact 17 (f := .glo "stepped") rfl)
  obtain ⟨fd_step_cost, F0_step_cost⟩ := cd.def_ 18 (d := dd_step_cost) rfl
  have F_step_cost : Fun K "step_cost" "step_cost" s_step_cost (He.fAd K ("step_cost", none)) fd_step_cost := fun_of F0_step_cost
  have m_step_cost : mg "step_cost" = some (.ref (He.fAd K ("step_cost", none))) := He.glo_ok X G (cd.fact 18 (f := .glo "step_cost") rfl)
  obtain ⟨fd__law_right, F0__law_right⟩ := cd.def_ 19 (d := dd__law_right) rfl
  have F__law_right : Fun K "_law_right" "_law_right" s__law_right (He.fAd K ("_law_right", none)) fd__law_right := fun_of F0__law_right
  have m__law_right : mg "_law_right" = some (.ref (He.fAd K ("_law_right", none))) := He.glo_ok X G (cd.fact 19 (f := .glo "_law_right") rfl)
  obtain ⟨fd__law_well, F0__law_well⟩ := cd.def_ 20 (d := dd__law_well) rfl
  have F__law_well : Fun K "_law_well" "_law_well" s__law_well (He.fAd K ("_law_well", none)) fd__law_well := fun_of F0__law_well
  have m__law_well : mg "_law_well" = some (.ref (He.fAd K ("_law_well", none))) := He.glo_ok X G (cd.fact 20 (f := .glo "_law_well") rfl)
  obtain ⟨fd__law_turns, F0__law_turns⟩ := cd.def_ 21 (d := dd__law_turns) rfl
  have F__law_turns : Fun K "_law_turns" "_law_turns" s__law_turns (He.fAd K ("_law_turns", none)) fd__law_turns := fun_of F0__law_turns
  have m__law_turns : mg "_law_turns" = some (.ref (He.fAd K ("_law_turns", none))) := He.glo_ok X G (cd.fact 21 (f := .glo "_law_turns") rfl)
  obtain ⟨fd_law, F0_law⟩ := cd.def_ 22 (d := dd_law) rfl
  have F_law : Fun K "law" "law" s_law (He.fAd K ("law", none)) fd_law := fun_of F0_law
  have m_law : mg "law" = some (.ref (He.fAd K ("law", none))) := He.glo_ok X G (cd.fact 22 (f := .glo "law") rfl)
  have hx := c.more
  have hxx0 := hx
  have hx_WORDS : tupD K "WORDS" w_WORDS = true := hxx0
  have gl : Gl0 K mg := ⟨He.free_ok X G (cd.fact 23 (f := .free "abs") rfl), He.free_ok X G (cd.fact 24 (f := .free "all") rfl), He.free_ok X G (cd.fact 25 (f := .free "divmod") rfl), He.free_ok X G (cd.fact 26 (f := .free "enumerate") rfl), He.free_ok X G (cd.fact 27 (f := .free "int") rfl), He.free_ok X G (cd.fact 28 (f := .free "isinstance") rfl), He.free_ok X G (cd.fact 29 (f := .free "len") rfl), He.free_ok X G (cd.fact 30 (f := .free "list") rfl), He.free_ok X G (cd.fact 31 (f := .free "max") rfl), He.free_ok X G (cd.fact 32 (f := .free "min") rfl), He.free_ok X G (cd.fact 33 (f := .free "range") rfl), He.free_ok X G (cd.fact 34 (f := .free "repr") rfl), He.free_ok X G (cd.fact 35 (f := .free "str") rfl), He.free_ok X G (cd.fact 36 (f := .free "tuple") rfl), He.int_ok X G (cd.fact 37 (f := .int "MOST_ASKINGS" 30) rfl), He.int_ok X G (cd.fact 38 (f := .int "MOST_BOOKS" 7) rfl), He.int_ok X G (cd.fact 39 (f := .int "MOST_SIGNS" 8) rfl), He.str_ok X G (cd.fact 40 (f := .str "SMALL" "abcdefghijklmnopqrstuvwxyz") rfl), ⟨_, He.glo_ok X G (cd.fact 41 (f := .glo "WORDS") rfl), tupD_rp (vs := w_WORDS) hx_WORDS⟩⟩
  have e := hfm.symm.trans m_law
  cases e
  have b := FunD.bindsA (ps := ["script"]) F0_law fun _ _ _ _ _ _ us hl => match us, hl with | [_], _ => rfl
  refine ⟨fd_law, fun s v => b s [v] rfl, fun base _ _ htb => ?_⟩
  have kn__law_dip : Kn P w K mg base ⟨K, Ts K, none⟩ 1 "_law_dip" s__law_dip ["well", "many"] 2 d_dip := ⟨_, fd__law_dip, m__law_dip, F__law_dip, ok__law_dip gl  F__law_dip⟩
  have kn__law_one : Kn P w K mg base ⟨K, Ts K, none⟩ 2 "_law_one" s__law_one ["well", "some"] 2 d__law_one := ⟨_, fd__law_one, m__law_one, F__law_one, ok__law_one gl kn__law_dip F__law_one⟩
  have kn__law_words : Kn P w K mg base ⟨K, Ts K, none⟩ 3 "_law_words" s__law_words ["well", "many"] 2 d__law_words := ⟨_, fd__law_words, m__law_words, F__law_words, ok__law_words gl kn__law_one kn__law_dip F__law_words⟩
  have kn__law_shelf : Kn P w K mg base ⟨K, Ts K, none⟩ 4 "_law_shelf" s__law_shelf ["well", "most"] 2 d__law_shelf := ⟨_, fd__law_shelf, m__law_shelf, F__law_shelf, ok__law_shelf gl kn__law_words kn__law_dip F__law_shelf⟩
  have kn__law_asks : Kn P w K mg base ⟨K, Ts K, none⟩ 3 "_law_asks" s__law_asks ["well", "shelf", "most"] 3 d__law_asks := ⟨_, fd__law_asks, m__law_asks, F__law_asks, ok__law_asks gl kn__law_dip kn__law_one F__law_asks⟩
  have kn_is_word : Kn P w K mg base ⟨K, Ts K, none⟩ 1 "is_word" s_is_word ["value"] 1 d_is_word := ⟨_, fd_is_word, m_is_word, F_is_word, ok_is_word gl  F_is_word⟩
  have kn_is_name : Kn P w K mg base ⟨K, Ts K, none⟩ 2 "is_name" s_is_name ["value"] 1 d_is_name := ⟨_, fd_is_name, m_is_name, F_is_name, ok_is_name gl kn_is_word F_is_name⟩
  have kn_is_shelf_form : Kn P w K mg base ⟨K, Ts K, none⟩ 3 "is_shelf_form" s_is_shelf_form ["value"] 1 d_is_shelf_form := ⟨_, fd_is_shelf_form, m_is_shelf_form, F_is_shelf_form, ok_is_shelf_form gl kn_is_name F_is_shelf_form⟩
  have kn_check_shelf : Kn P w K mg base ⟨K, Ts K, none⟩ 4 "check_shelf" s_check_shelf ["value"] 1 d_check_shelf := ⟨_, fd_check_shelf, m_check_shelf, F_check_shelf, ok_check_shelf gl kn_is_shelf_form F_check_shelf⟩
  have kn_wrong_at : KnW P w K mg base ⟨K, Ts K, none⟩ 7 6 "wrong_at" s_wrong_at ["value", "is_right"] dw_wrong_at := ⟨_, fd_wrong_at, m_wrong_at, F_wrong_at, ok_wrong_at gl  F_wrong_at⟩
  have kn_is_one_of : Kn P w K mg base ⟨K, Ts K, none⟩ 1 "is_one_of" s_is_one_of ["value", "words"] 2 d_is_one_of := ⟨_, fd_is_one_of, m_is_one_of, F_is_one_of, ok_is_one_of gl  F_is_one_of⟩
  have kn_wrong_askings : Kn P w K mg base ⟨K, Ts K, none⟩ 8 "wrong_askings" s_wrong_askings ["shelf", "value", "most"] 3 d_wrong_askings := ⟨_, fd_wrong_askings, m_wrong_askings, F_wrong_askings, ok_wrong_askings gl kn_wrong_at kn_is_one_of F_wrong_askings (code_of F_wrong_askings) (htb _ (List.mem_map.mpr ⟨_, by simp [htf], rfl⟩)) (show ((He.cT K ("wrong_askings", none)).2, _) ∈ Ts K from List.mem_cons_self) rfl (fun p hp _ => by rw [List.mem_singleton.mp hp])⟩
  have kn_check_askings_of : Kn P w K mg base ⟨K, Ts K, none⟩ 9 "check_askings_of" s_check_askings_of ["shelf", "value"] 2 d_check_askings_of := ⟨_, fd_check_askings_of, m_check_askings_of, F_check_askings_of, ok_check_askings_of gl kn_wrong_askings F_check_askings_of⟩
  have kn_check_asked : Kn P w K mg base ⟨K, Ts K, none⟩ 10 "check_asked" s_check_asked ["shelf", "askings"] 2 d_check_asked := ⟨_, fd_check_asked, m_check_asked, F_check_asked, ok_check_asked gl kn_check_shelf kn_check_askings_of F_check_asked⟩
  have kn_place_in : Kn P w K mg base ⟨K, Ts K, none⟩ 1 "place_in" s_place_in ["shelf", "book"] 2 d_place_in := ⟨_, fd_place_in, m_place_in, F_place_in, ok_place_in gl  F_place_in⟩
  have kn_set_ahead : Kn P w K mg base ⟨K, Ts K, none⟩ 1 "set_ahead" s_set_ahead ["shelf", "book", "place"] 3 d_set_ahead := ⟨_, fd_set_ahead, m_set_ahead, F_set_ahead, ok_set_ahead gl  F_set_ahead⟩
  have kn_by_steps : Kn P w K mg base ⟨K, Ts K, none⟩ 2 "by_steps" s_by_steps ["shelf", "askings"] 2 d_by_steps := ⟨_, fd_by_steps, m_by_steps, F_by_steps, ok_by_steps gl kn_place_in kn_set_ahead F_by_steps⟩
  have kn_stepped : Kn P w K mg base ⟨K, Ts K, none⟩ 11 "stepped" s_stepped ["shelf", "askings"] 2 d_stepped := ⟨_, fd_stepped, m_stepped, F_stepped, ok_stepped gl kn_check_asked kn_by_steps F_stepped⟩
  have kn_step_cost : Kn P w K mg base ⟨K, Ts K, none⟩ 11 "step_cost" s_step_cost ["shelf", "askings"] 2 d_step_cost := ⟨_, fd_step_cost, m_step_cost, F_step_cost, ok_step_cost gl kn_check_asked kn_by_steps F_step_cost⟩
  have kn__law_right : Kn P w K mg base ⟨K, Ts K, none⟩ 12 "_law_right" s__law_right ["well"] 1 d__law_right := ⟨_, fd__law_right, m__law_right, F__law_right, ok__law_right gl kn__law_shelf kn__law_asks kn_stepped kn_step_cost F__law_right⟩
  have kn__law_well : Kn P w K mg base ⟨K, Ts K, none⟩ 1 "_law_well" s__law_well ["script", "k"] 2 d__law_well := ⟨_, fd__law_well, m__law_well, F__law_well, ok__law_well gl  F__law_well⟩
  have kn__law_turns : Kn P w K mg base ⟨K, Ts K, none⟩ 1 "_law_turns" s__law_turns ["script"] 1 d__law_turns := ⟨_, fd__law_turns, m__law_turns, F__law_turns, ok__law_turns gl  F__law_turns⟩
  exact ok_law gl kn__law_right kn__law_well kn__law_turns F_law
end K55
open PySem PySem.W PySem.Calls PyProof.Rows
theorem PySem.Challenge.cw_frontshelf_k55_whole_step_rule_holds : PySem.Challenge.rw_frontshelf_k55_whole_step_rule.Holds := by
  w_on; o_law
  refine HandSHeadRun.head_any (r := OpenLaw.row PySem.Challenge.rw_frontshelf_k55_whole_step_rule) (q := view (OpenLaw.row PySem.Challenge.rw_frontshelf_k55_whole_step_rule).prog [37]) (H := K55.hk) (ob := K55.hob) (M := 8000) (loose := K55.nms) (d := HandSHeadRun.topDef (OpenLaw.row PySem.Challenge.rw_frontshelf_k55_whole_step_rule).prog 37) (kwd := []) K55.hob_eq
    (by kernel_rfl) (fun s => by kernel_rfl) K55.hrun (by kernel_rfl) (by kernel_rfl) (by kernel_rfl) (by rfl) (by first | assumption | decide +kernel) (by decide +kernel) ⟨rfl, rfl, rfl, rfl, rfl, by decide +kernel⟩ ?hw ?hc
  case hw => w_witness2
  case hc =>
    refine DL.law_walk (l := PySem.Challenge.rw_frontshelf_k55_whole_step_rule) (n := 63) (k := 13) (x := "script") rfl (by decide) (by kernel_rfl) ⟨⟨rfl, by decide, by decide⟩, rfl⟩ ?F
    intro w mg fa h Y G hmg0
    obtain ⟨K, KX, c⟩ := Y
    have hmg : mg ("law" : PySem.Str) = some (.ref fa) := by
      have e : (HandSHeadRun.topDef (OpenLaw.row PySem.Challenge.rw_frontshelf_k55_whole_step_rule).prog 37).name = ("law" : PySem.Str) := by kernel_rfl
      rw [← e]
      exact hmg0
    obtain ⟨fd, hb, hF⟩ := K55.law_facts (P := (PySem.Challenge.rw_frontshelf_k55_whole_step_rule).prog) (w := w) KX G hmg c
    refine ⟨K, ⟨K, K55.Ts K, none⟩, fd, K55.htf.map (He.cT K), K55.d_law, KX, rfl, ?_, fun p hp => ?_, fun p hp => ?_, fun p hp => ?_, hb, fun ns hl _ => K55.p_law hl rfl, hF⟩
    · intro t ht
      simp only [K55.Ts, List.mem_cons, List.not_mem_nil, or_false] at ht
      exact ⟨_, List.mem_map.mpr ⟨_, List.mem_singleton.mpr rfl, rfl⟩, by rw [ht]⟩
    · obtain ⟨x, hx, rfl⟩ := List.mem_map.mp hp
      exact c.empty x hx
    · obtain ⟨x, hx, rfl⟩ := List.mem_map.mp hp
      exact c.out x hx
    · obtain ⟨x, hx, rfl⟩ := List.mem_map.mp hp
      exact PySem.W.codeHd_of_K KX (c.hd x hx)

