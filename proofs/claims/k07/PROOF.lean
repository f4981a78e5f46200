import PyProof.Rows.All
import Wide.All
import OpenK.AllK
import Wide.FinOn
import PySem.Challenge.RW_unjump_k07_run_by_rows
import HandS.ForMost
import HandS.ForExc
import HandS.HeadHook1
import HandS.ExcCtx
import HandS.TryOnly
import HandS.RevRange
import HandS.Rev
import HandS.CallSlots
import HandS.Defaults
import HandS.IsInst
import HandS.Wide
import HandS.WideBits
import HandS.TupAny
import HandS.WordsDict
import HandS.TupLen
import HandS.Deep
import HandS.More
import HandS.Text
import HandS.RaiseMore
import HandS.Comp
import HandS.Style
import HandS.DictComp
import HandS.HeadHook4
import HandS.HeadWalk
import HandS.Words
import HandS.RevTup
import HandS.Zip
import HandS.SetFor
import HandS.ExcInit
import HandS.ExcIs
import HandS.ExcField
import HandS.TryMany
import HandS.HotCalls
import HandS.TryElse
import KE.KBits
import HandS.Head0
import HandS.Head1
import HandS.Head2
import HandS.HeadEnd
import Lean
set_option Elab.async false
set_option linter.all false
set_option maxRecDepth 100001
set_option maxHeartbeats 4000001
/-! VL1: data as trees, how the heap bears them, the state of a body. -/
namespace VL
open PySem PySem.Spec PyProof.Rows L2 VL
/-! exceptions whose context is told: L2N's names, for L2's -/
abbrev Takes := L2N.Takes
abbrev CX := L2N.CX
abbrev PMk := L2N.PMk
abbrev MkP := L2N.MkP
theorem passAt {X : Cx} {W : WX} (tk : Takes X W) (σ : L2.St) : PassesAt (CX X.prog X.w) X σ (WE W σ) := L2N.passAt tk σ
theorem takes_of {X : Cx} {E : XK} (hs : X.stack = X.env :: X.outer) (hf : X.env.frame = some X.env.locals) (hex : X.ex = []) {E₁ : Value → Shared → Prop}
    (hx : X.xe = fun e s' => wpAny (model X.prog X.w) X.A (leaving X.env e) (fun _ s'' => CX X.prog X.w X.outer X.H_0 X.s_0 E e s'') E₁ s') : Takes X (fun cls d _ H => E cls d H) := L2N.takes_of hs hf hex hx
/-- a text by its codes -/
abbrev Cs := List Nat
def toS (s : Cs) : Str := ⟨s.toArray⟩
theorem toS_inj {a b : Cs} (h : toS a = toS b) : a = b := by
  have h2 : a.toArray = b.toArray := congrArg Str.cps h
  simpa using congrArg Array.toList h2
theorem toS_cps (x : Str) : toS x.cps.toList = x := by
  show (⟨x.cps.toList.toArray⟩ : Str) = x
  rw [Array.toArray_toList]
/-- a dict's key: an int, a text -/
abbrev Kc := Sum Int Cs
def kc : Kc → Key
  | .inl i => .inl i
  | .inr s => .inr (toS s)
theorem kc_inj {a b : Kc} (h : kc a = kc b) : a = b := by
  cases a <;> cases b <;> simp only [kc, Sum.inl.injEq, Sum.inr.injEq, reduceCtorEq] at h
  · rw [h]
  · rw [toS_inj h]
/-- Python's data as a tree. The flag m of a mutable node: it is ours alone (true), or it stands still (false) -/
inductive D where
  | hole
  | val (v : V)
  | non
  | bl (b : Bool)
  | int (i : Int)
  | str (s : Cs)
  | ty (n : String)
  | tup (xs : List D)
  | lst (m : Bool) (xs : List D)
  | dK (m : Bool) (ks : List Kc) (xs : List D)
  | dT (m : Bool) (ks : List (List Kc)) (xs : List D)
  | ins (m : Bool) (C : Addr) (fs : List Cs) (xs : List D)
  | pin (v : V) (d : D)
  | exn (a dd : Addr) (cls : Value) (row : D)
deriving Inhabited
/-- the program's own classes, by number -/
def cA (K : PySem.W.Frag) : Nat → Addr
  | 0 => He.ga K "Deeds"
  | 1 => He.ga K "Opened"
  | 2 => He.ga K "Teller"
  | 3 => He.ga K "Versions"
  | 4 => He.ga K "DeedsByVersions"
  | n => n
def kzip (ks : List Kc) (vs : List V) : List (Key × V) := (ks.map kc).zip vs
def tzip (ks : List (List Kc)) (vs : List V) : List (List Key × V) := (ks.map (·.map kc)).zip vs
def fzip (fs : List Cs) (vs : List V) : List (Str × V) := (fs.map toS).zip vs
/-- what G holds stands in H -/
def Sub (G H : Hp) : Prop := ∀ a o, G a = some o → H a = some o
theorem Sub.refl {G : Hp} : Sub G G := fun _ _ e => e
theorem Sub.trans {A B C : Hp} (h : Sub A B) (k : Sub B C) : Sub A C := fun a o e => k a o (h a o e)
theorem Sub.rd {G H : Hp} (h : Sub G H) {a : Addr} {u : HO} (r : Rd G a u) : Rd H a u := by
  rcases r with r | ⟨o, r⟩
  · exact .inl (h _ _ r)
  · exact .inr ⟨o, h _ _ r⟩
theorem Sub.sqL {K : PySem.W.Frag} {G H : Hp} (h : Sub G H) {a : Addr} {xs : List V} (r : SqL K G a xs) : SqL K H a xs := by
  rcases r with r | r
  · exact .inl (h.rd r)
  · exact .inr r
theorem Sub.sqT {K : PySem.W.Frag} {G H : Hp} (h : Sub G H) {a : Addr} {xs : List V} (r : SqT K G a xs) : SqT K H a xs := by
  rcases r with r | r
  · exact .inl (h.rd r)
  · exact .inr r
theorem Sub.upd {G H : Hp} {a : Addr} {o : HO} (h : Sub G H) (n : G a = none) : Sub G (upd H a o) := fun b u e => by
  rw [upd_ne (ne_of_none e n)]
  exact h b u e
theorem Sub.upd2 {G H : Hp} {a : Addr} {o : HO} (h : Sub G H) : Sub (L2.upd G a o) (L2.upd H a o) := fun b u e => by
  by_cases hb : b = a
  · subst hb
    rw [upd_same] at e ⊢
    exact e
  · rw [upd_ne hb] at e ⊢
    exact h b u e
theorem Sub.laid {G : Hp} {a : Addr} {o : HO} (n : G a = none) : Sub G (L2.upd G a o) := Sub.refl.upd n

mutual
/-- v is d: what stands still in G, what is ours at the addresses F in H -/
def Rp (K : PySem.W.Frag) (G H : Hp) : D → V → List Addr → Prop
  | .hole, _, F => F = []
  | .val u, v, F => v = u ∧ F = []
  | .non, v, F => v = .non ∧ F = []
  | .bl b, v, F => v = .bl b ∧ F = []
  | .int i, v, F => v = .int i ∧ F = []
  | .str s, v, F => v = .str (toS s) ∧ F = []
  | .ty n, v, F => v = .ty n ∧ F = []
  | .pin u d, v, F => v = u ∧ Rp K G H d v F
  | .exn a dd _ row, v, F => v = .ref a ∧ ∃ w, G dd = some (.xd [("row", w)]) ∧ Rp K G H row w F
  | .tup ds, v, F => ∃ a vs, v = .ref a ∧ G a = some (.tup vs) ∧ RpL K G H ds vs F
  | .lst false ds, v, F => ∃ a vs, v = .ref a ∧ SqL K G a vs ∧ F = [] ∧ RpL K G H ds vs []
  | .lst true ds, v, F => ∃ a vs F', v = .ref a ∧ H a = some (.lst vs) ∧ F = a :: F' ∧ RpL K G H ds vs F'
  | .dK false ks ds, v, F => ∃ a vs, v = .ref a ∧ Rd G a (.dK (kzip ks vs)) ∧ F = [] ∧ ks.length = ds.length ∧ ks.Nodup ∧ RpL K G H ds vs []
  | .dK true ks ds, v, F => ∃ a vs F', v = .ref a ∧ H a = some (.dK (kzip ks vs)) ∧ F = a :: F' ∧ ks.length = ds.length ∧ ks.Nodup ∧ RpL K G H ds vs F'
  | .dT false ks ds, v, F => ∃ a vs, v = .ref a ∧ G a = some (.dT (tzip ks vs)) ∧ F = [] ∧ ks.length = ds.length ∧ ks.Nodup ∧ RpL K G H ds vs []
  | .dT true ks ds, v, F => ∃ a vs F', v = .ref a ∧ H a = some (.dT (tzip ks vs)) ∧ F = a :: F' ∧ ks.length = ds.length ∧ ks.Nodup ∧ RpL K G H ds vs F'
  | .ins false C fs ds, v, F => ∃ a dx vs, v = .ref a ∧ G a = some (.ins (cA K C) dx (fzip fs vs)) ∧ F = [] ∧ fs.length = ds.length ∧ RpL K G H ds vs []
  | .ins true C fs ds, v, F => ∃ a dx vs F', v = .ref a ∧ H a = some (.ins (cA K C) dx (fzip fs vs)) ∧ F = a :: F' ∧ fs.length = ds.length ∧ RpL K G H ds vs F'
def RpL (K : PySem.W.Frag) (G H : Hp) : List D → List V → List Addr → Prop
  | [], vs, F => vs = [] ∧ F = []
  | d :: ds, vs, F => ∃ v vs' F1 F2, vs = v :: vs' ∧ F = F1 ++ F2 ∧ Rp K G H d v F1 ∧ RpL K G H ds vs' F2
end

section
variable {K : PySem.W.Frag} {G G' H H' : Hp}
mutual
/-- carried over: G grows, our own objects stay -/
theorem Rp.mono (hs : Sub G G') : ∀ {d : D} {v : V} {F : List Addr}, (∀ a ∈ F, H' a = H a) → Rp K G H d v F → Rp K G' H' d v F
  | .hole, _, _, _, h => h
  | .val _, _, _, _, h => h
  | .non, _, _, _, h => h
  | .bl _, _, _, _, h => h
  | .int _, _, _, _, h => h
  | .str _, _, _, _, h => h
  | .ty _, _, _, _, h => h
  | .pin u d, v, F, k, h => ⟨h.1, Rp.mono hs k h.2⟩
  | .exn _ _ _ row, v, F, k, h => by
    obtain ⟨e, w, s, r⟩ := h
    exact ⟨e, w, hs _ _ s, Rp.mono hs k r⟩
  | .tup ds, v, F, k, h => by
    obtain ⟨a, vs, e, s, r⟩ := h
    exact ⟨a, vs, e, hs _ _ s, RpL.mono hs k r⟩
  | .lst false ds, v, F, k, h => by
    obtain ⟨a, vs, e, s, f, r⟩ := h
    exact ⟨a, vs, e, hs.sqL s, f, RpL.mono hs (fun _ z => nomatch z) r⟩
  | .lst true ds, v, F, k, h => by
    obtain ⟨a, vs, F', e, s, rfl, r⟩ := h
    exact ⟨a, vs, F', e, (k a List.mem_cons_self).trans s, rfl, RpL.mono hs (fun b z => k b (List.mem_cons_of_mem _ z)) r⟩
  | .dK false ks ds, v, F, k, h => by
    obtain ⟨a, vs, e, s, f, l, n, r⟩ := h
    exact ⟨a, vs, e, hs.rd s, f, l, n, RpL.mono hs (fun _ z => nomatch z) r⟩
  | .dK true ks ds, v, F, k, h => by
    obtain ⟨a, vs, F', e, s, rfl, l, n, r⟩ := h
    exact ⟨a, vs, F', e, (k a List.mem_cons_self).trans s, rfl, l, n, RpL.mono hs (fun b z => k b (List.mem_cons_of_mem _ z)) r⟩
  | .dT false ks ds, v, F, k, h => by
    obtain ⟨a, vs, e, s, f, l, n, r⟩ := h
    exact ⟨a, vs, e, hs _ _ s, f, l, n, RpL.mono hs (fun _ z => nomatch z) r⟩
  | .dT true ks ds, v, F, k, h => by
    obtain ⟨a, vs, F', e, s, rfl, l, n, r⟩ := h
    exact ⟨a, vs, F', e, (k a List.mem_cons_self).trans s, rfl, l, n, RpL.mono hs (fun b z => k b (List.mem_cons_of_mem _ z)) r⟩
  | .ins false C fs ds, v, F, k, h => by
    obtain ⟨a, dx, vs, e, s, f, l, r⟩ := h
    exact ⟨a, dx, vs, e, hs _ _ s, f, l, RpL.mono hs (fun _ z => nomatch z) r⟩
  | .ins true C fs ds, v, F, k, h => by
    obtain ⟨a, dx, vs, F', e, s, rfl, l, r⟩ := h
    exact ⟨a, dx, vs, F', e, (k a List.mem_cons_self).trans s, rfl, l, RpL.mono hs (fun b z => k b (List.mem_cons_of_mem _ z)) r⟩
theorem RpL.mono (hs : Sub G G') : ∀ {ds : List D} {vs : List V} {F : List Addr}, (∀ a ∈ F, H' a = H a) → RpL K G H ds vs F → RpL K G' H' ds vs F
  | [], _, _, _, h => h
  | d :: ds, vs, F, k, h => by
    obtain ⟨v, vs', F1, F2, rfl, rfl, r, rs⟩ := h
    exact ⟨v, vs', F1, F2, rfl, rfl, Rp.mono hs (fun a z => k a (List.mem_append_left _ z)) r, RpL.mono hs (fun a z => k a (List.mem_append_right _ z)) rs⟩
end
mutual
/-- what is ours stands -/
theorem Rp.there : ∀ {d : D} {v : V} {F : List Addr}, Rp K G H d v F → ∀ a ∈ F, ∃ o, H a = some o ∧ Mut (some o)
  | .hole, _, _, h, a, z => by rw [show _ = [] from h] at z; cases z
  | .val _, _, _, h, a, z => by rw [h.2] at z; cases z
  | .non, _, _, h, a, z => by rw [h.2] at z; cases z
  | .bl _, _, _, h, a, z => by rw [h.2] at z; cases z
  | .int _, _, _, h, a, z => by rw [h.2] at z; cases z
  | .str _, _, _, h, a, z => by rw [h.2] at z; cases z
  | .ty _, _, _, h, a, z => by rw [h.2] at z; cases z
  | .pin u d, v, F, h, a, z => Rp.there h.2 a z
  | .exn _ _ _ row, v, F, h, a, z => by
    obtain ⟨e, w, s, r⟩ := h
    exact Rp.there r a z
  | .tup ds, v, F, h, a, z => by
    obtain ⟨_, vs, e, s, r⟩ := h
    exact RpL.there r a z
  | .lst false ds, v, F, h, a, z => by
    obtain ⟨_, vs, e, s, f, r⟩ := h
    rw [f] at z; cases z
  | .lst true ds, v, F, h, a, z => by
    obtain ⟨b, vs, F', e, s, rfl, r⟩ := h
    rcases List.mem_cons.mp z with rfl | z
    · exact ⟨_, s, trivial⟩
    · exact RpL.there r a z
  | .dK false ks ds, v, F, h, a, z => by
    obtain ⟨_, vs, e, s, f, _, _, r⟩ := h
    rw [f] at z; cases z
  | .dK true ks ds, v, F, h, a, z => by
    obtain ⟨b, vs, F', e, s, rfl, _, _, r⟩ := h
    rcases List.mem_cons.mp z with rfl | z
    · exact ⟨_, s, trivial⟩
    · exact RpL.there r a z
  | .dT false ks ds, v, F, h, a, z => by
    obtain ⟨_, vs, e, s, f, _, _, r⟩ := h
    rw [f] at z; cases z
  | .dT true ks ds, v, F, h, a, z => by
    obtain ⟨b, vs, F', e, s, rfl, _, _, r⟩ := h
    rcases List.mem_cons.mp z with rfl | z
    · exact ⟨_, s, trivial⟩
    · exact RpL.there r a z
  | .ins false C fs ds, v, F, h, a, z => by
    obtain ⟨_, _, vs, e, s, f, _, r⟩ := h
    rw [f] at z; cases z
  | .ins true C fs ds, v, F, h, a, z => by
    obtain ⟨b, dx, vs, F', e, s, rfl, _, r⟩ := h
    rcases List.mem_cons.mp z with rfl | z
    · exact ⟨_, s, trivial⟩
    · exact RpL.there r a z
theorem RpL.there : ∀ {ds : List D} {vs : List V} {F : List Addr}, RpL K G H ds vs F → ∀ a ∈ F, ∃ o, H a = some o ∧ Mut (some o)
  | [], _, _, h, a, z => by rw [h.2] at z; cases z
  | d :: ds, vs, F, h, a, z => by
    obtain ⟨v, vs', F1, F2, rfl, rfl, r, rs⟩ := h
    rcases List.mem_append.mp z with z | z
    · exact Rp.there r a z
    · exact RpL.there rs a z
end
theorem RpL.len : ∀ {ds : List D} {vs : List V} {F : List Addr}, RpL K G H ds vs F → ds.length = vs.length
  | [], _, _, h => by rw [h.1]; rfl
  | d :: ds, vs, F, h => by
    obtain ⟨v, vs', F1, F2, rfl, rfl, r, rs⟩ := h
    rw [List.length_cons, List.length_cons, RpL.len rs]
theorem RpL.append : ∀ {ds es : List D} {vs ws : List V} {F1 F2 : List Addr}, RpL K G H ds vs F1 → RpL K G H es ws F2 → RpL K G H (ds ++ es) (vs ++ ws) (F1 ++ F2)
  | [], es, vs, ws, F1, F2, h, k => by
    obtain ⟨rfl, rfl⟩ := h
    exact k
  | d :: ds, es, vs, ws, F1, F2, h, k => by
    obtain ⟨v, vs', A, B, rfl, rfl, r, rs⟩ := h
    exact ⟨v, vs' ++ ws, A, B ++ F2, rfl, List.append_assoc .., r, RpL.append rs k⟩
theorem RpL.split : ∀ {ds es : List D} {us : List V} {F : List Addr}, RpL K G H (ds ++ es) us F → ∃ vs ws F1 F2, us = vs ++ ws ∧ F = F1 ++ F2 ∧ RpL K G H ds vs F1 ∧ RpL K G H es ws F2
  | [], es, us, F, h => ⟨[], us, [], F, rfl, rfl, ⟨rfl, rfl⟩, h⟩
  | d :: ds, es, us, F, h => by
    obtain ⟨v, vs', A, B, rfl, rfl, r, rs⟩ := h
    obtain ⟨vs, ws, F1, F2, rfl, rfl, r1, r2⟩ := RpL.split rs
    exact ⟨v :: vs, ws, A ++ F1, F2, rfl, (List.append_assoc ..).symm, ⟨v, vs, A, F1, rfl, rfl, r, r1⟩, r2⟩
/-- where the values are told already -/
theorem RpL.split2 {ds es : List D} {vs ws : List V} {F : List Addr} (h : RpL K G H (ds ++ es) (vs ++ ws) F) (hl : ds.length = vs.length) : ∃ F1 F2, F = F1 ++ F2 ∧ RpL K G H ds vs F1 ∧ RpL K G H es ws F2 := by
  obtain ⟨vs', ws', F1, F2, e, f, r1, r2⟩ := RpL.split h
  obtain ⟨rfl, rfl⟩ := List.append_inj e (hl.symm.trans r1.len)
  exact ⟨F1, F2, f, r1, r2⟩
theorem RpL.one {d : D} {v : V} {F : List Addr} : RpL K G H [d] [v] F ↔ Rp K G H d v F := by
  constructor
  · rintro ⟨v', vs', F1, F2, e, rfl, r, rfl, rfl⟩
    cases e
    rw [List.append_nil]
    exact r
  · intro r
    exact ⟨v, [], F, [], rfl, (List.append_nil _).symm, r, rfl, rfl⟩
theorem RpL.get : ∀ {ds : List D} {vs : List V} {i : Nat} {d : D}, RpL K G H ds vs [] → ds[i]? = some d → ∃ v, vs[i]? = some v ∧ Rp K G H d v []
  | [], _, _, _, _, e => by simp at e
  | d :: ds, vs, 0, d', h, e => by
    obtain ⟨v, vs', F1, F2, rfl, f, r, rs⟩ := h
    obtain ⟨rfl, rfl⟩ := List.append_eq_nil_iff.mp f.symm
    simp at e
    subst e
    exact ⟨v, rfl, r⟩
  | d :: ds, vs, i + 1, d', h, e => by
    obtain ⟨v, vs', F1, F2, rfl, f, r, rs⟩ := h
    obtain ⟨rfl, rfl⟩ := List.append_eq_nil_iff.mp f.symm
    obtain ⟨w, hw, q⟩ := RpL.get (i := i) rs (by simpa using e)
    exact ⟨w, by simpa using hw, q⟩
/-- one place of a list, the others around it -/
theorem RpL.focus : ∀ {ds : List D} {vs : List V} {F : List Addr} {i : Nat} {d : D}, RpL K G H ds vs F → ds[i]? = some d →
    ∃ v A B C, vs[i]? = some v ∧ F = A ++ B ++ C ∧ Rp K G H d v B ∧ ∀ (G' H' : Hp) (d' : D) (v' : V) (B' : List Addr), Sub G G' → (∀ a ∈ A ++ C, H' a = H a) → Rp K G' H' d' v' B' → RpL K G' H' (ds.set i d') (vs.set i v') (A ++ B' ++ C)
  | [], _, _, _, _, _, e => by simp at e
  | d :: ds, vs, F, 0, d', h, e => by
    obtain ⟨v, vs', F1, F2, rfl, rfl, r, rs⟩ := h
    simp at e
    subst e
    refine ⟨v, [], F1, F2, rfl, rfl, r, fun G' H' d' v' B' hs k r' => ?_⟩
    exact ⟨v', vs', B', F2, rfl, rfl, r', RpL.mono hs k rs⟩
  | d :: ds, vs, F, i + 1, d', h, e => by
    obtain ⟨v, vs', F1, F2, rfl, rfl, r, rs⟩ := h
    obtain ⟨w, A, B, C, hw, rfl, q, back⟩ := RpL.focus (i := i) rs (by simpa using e)
    refine ⟨w, F1 ++ A, B, C, by simpa using hw, by simp only [List.append_assoc], q, fun G' H' d'' v'' B' hs k r' => ?_⟩
    refine ⟨v, vs'.set i v'', F1, A ++ B' ++ C, rfl, by simp only [List.append_assoc], Rp.mono hs (fun a z => k a ?_) r, back G' H' d'' v'' B' hs (fun a z => k a ?_) r'⟩
    · exact List.mem_append_left _ (List.mem_append_left _ z)
    · rcases List.mem_append.mp z with z | z
      · exact List.mem_append_left _ (List.mem_append_right _ z)
      · exact List.mem_append_right _ z
end

/-! ### what stands still -/
mutual
def frz : D → D
  | .hole => .hole
  | .val v => .val v
  | .non => .non
  | .bl b => .bl b
  | .int i => .int i
  | .str s => .str s
  | .ty n => .ty n
  | .pin u d => .pin u (frz d)
  | .exn a dd c row => .exn a dd c (frz row)
  | .tup xs => .tup (frzL xs)
  | .lst _ xs => .lst false (frzL xs)
  | .dK _ ks xs => .dK false ks (frzL xs)
  | .dT _ ks xs => .dT false ks (frzL xs)
  | .ins _ C fs xs => .ins false C fs (frzL xs)
def frzL : List D → List D
  | [] => []
  | d :: ds => frz d :: frzL ds
end
mutual
/-- nothing in it is ours -/
def isFz : D → Bool
  | .hole => true
  | .val _ => true
  | .non => true
  | .bl _ => true
  | .int _ => true
  | .str _ => true
  | .ty _ => true
  | .pin _ d => isFz d
  | .exn _ _ _ row => isFz row
  | .tup xs => isFzL xs
  | .lst m xs => !m && isFzL xs
  | .dK m _ xs => !m && isFzL xs
  | .dT m _ xs => !m && isFzL xs
  | .ins m _ _ xs => !m && isFzL xs
def isFzL : List D → Bool
  | [] => true
  | d :: ds => isFz d && isFzL ds
end
theorem frzL_map : ∀ ds : List D, frzL ds = ds.map frz
  | [] => rfl
  | d :: ds => by rw [frzL, frzL_map ds, List.map_cons]
theorem isFzL_all : ∀ ds : List D, isFzL ds = ds.all isFz
  | [] => rfl
  | d :: ds => by rw [isFzL, isFzL_all ds, List.all_cons]
section
variable {K : PySem.W.Frag} {G G' H H' : Hp}
mutual
theorem Rp.fz : ∀ {d : D} {v : V} {F : List Addr}, isFz d = true → Rp K G H d v F → F = []
  | .hole, _, _, _, h => h
  | .val _, _, _, _, h => h.2
  | .non, _, _, _, h => h.2
  | .bl _, _, _, _, h => h.2
  | .int _, _, _, _, h => h.2
  | .str _, _, _, _, h => h.2
  | .ty _, _, _, _, h => h.2
  | .pin u d, v, F, q, h => Rp.fz (d := d) q h.2
  | .exn _ _ _ row, v, F, q, h => by
    obtain ⟨e, w, s, r⟩ := h
    exact Rp.fz (d := row) q r
  | .tup ds, v, F, q, h => by
    obtain ⟨_, vs, e, s, r⟩ := h
    exact RpL.fz (by simpa [isFz] using q) r
  | .lst false ds, v, F, q, h => by
    obtain ⟨_, vs, e, s, f, r⟩ := h
    exact f
  | .lst true ds, v, F, q, h => by simp [isFz] at q
  | .dK false ks ds, v, F, q, h => by
    obtain ⟨_, vs, e, s, f, _⟩ := h
    exact f
  | .dK true ks ds, v, F, q, h => by simp [isFz] at q
  | .dT false ks ds, v, F, q, h => by
    obtain ⟨_, vs, e, s, f, _⟩ := h
    exact f
  | .dT true ks ds, v, F, q, h => by simp [isFz] at q
  | .ins false C fs ds, v, F, q, h => by
    obtain ⟨_, _, vs, e, s, f, _⟩ := h
    exact f
  | .ins true C fs ds, v, F, q, h => by simp [isFz] at q
theorem RpL.fz : ∀ {ds : List D} {vs : List V} {F : List Addr}, isFzL ds = true → RpL K G H ds vs F → F = []
  | [], _, _, _, h => h.2
  | d :: ds, vs, F, q, h => by
    obtain ⟨v, vs', F1, F2, rfl, rfl, r, rs⟩ := h
    have q2 : (isFz d && isFzL ds) = true := q
    obtain ⟨q3, q4⟩ := Bool.and_eq_true_iff.mp q2
    rw [Rp.fz q3 r, RpL.fz q4 rs]
    rfl
end
mutual
/-- what is ours is let stand still -/
theorem Rp.freeze (hs : Sub G G') : ∀ {d : D} {v : V} {F : List Addr}, (∀ a ∈ F, G' a = H a) → Rp K G H d v F → Rp K G' H' (frz d) v []
  | .hole, _, _, _, h => rfl
  | .val _, _, _, _, h => ⟨h.1, rfl⟩
  | .non, _, _, _, h => ⟨h.1, rfl⟩
  | .bl _, _, _, _, h => ⟨h.1, rfl⟩
  | .int _, _, _, _, h => ⟨h.1, rfl⟩
  | .str _, _, _, _, h => ⟨h.1, rfl⟩
  | .ty _, _, _, _, h => ⟨h.1, rfl⟩
  | .pin u d, v, F, k, h => ⟨h.1, Rp.freeze hs k h.2⟩
  | .exn _ _ _ row, v, F, k, h => by
    obtain ⟨e, w, s, r⟩ := h
    exact ⟨e, w, hs _ _ s, Rp.freeze hs k r⟩
  | .tup ds, v, F, k, h => by
    obtain ⟨a, vs, e, s, r⟩ := h
    exact ⟨a, vs, e, hs _ _ s, RpL.freeze hs k r⟩
  | .lst false ds, v, F, k, h => by
    obtain ⟨a, vs, e, s, f, r⟩ := h
    exact ⟨a, vs, e, hs.sqL s, rfl, RpL.freeze (F := []) hs (fun _ z => nomatch z) r⟩
  | .lst true ds, v, F, k, h => by
    obtain ⟨a, vs, F', e, s, rfl, r⟩ := h
    exact ⟨a, vs, e, SqL.of ((k a List.mem_cons_self).trans s), rfl, RpL.freeze hs (fun b z => k b (List.mem_cons_of_mem _ z)) r⟩
  | .dK false ks ds, v, F, k, h => by
    obtain ⟨a, vs, e, s, f, l, n, r⟩ := h
    exact ⟨a, vs, e, hs.rd s, rfl, by rw [frzL_map, List.length_map]; exact l, n, RpL.freeze (F := []) hs (fun _ z => nomatch z) r⟩
  | .dK true ks ds, v, F, k, h => by
    obtain ⟨a, vs, F', e, s, rfl, l, n, r⟩ := h
    exact ⟨a, vs, e, .inl ((k a List.mem_cons_self).trans s), rfl, by rw [frzL_map, List.length_map]; exact l, n, RpL.freeze hs (fun b z => k b (List.mem_cons_of_mem _ z)) r⟩
  | .dT false ks ds, v, F, k, h => by
    obtain ⟨a, vs, e, s, f, l, n, r⟩ := h
    exact ⟨a, vs, e, hs _ _ s, rfl, by rw [frzL_map, List.length_map]; exact l, n, RpL.freeze (F := []) hs (fun _ z => nomatch z) r⟩
  | .dT true ks ds, v, F, k, h => by
    obtain ⟨a, vs, F', e, s, rfl, l, n, r⟩ := h
    exact ⟨a, vs, e, (k a List.mem_cons_self).trans s, rfl, by rw [frzL_map, List.length_map]; exact l, n, RpL.freeze hs (fun b z => k b (List.mem_cons_of_mem _ z)) r⟩
  | .ins false C fs ds, v, F, k, h => by
    obtain ⟨a, dx, vs, e, s, f, l, r⟩ := h
    exact ⟨a, dx, vs, e, hs _ _ s, rfl, by rw [frzL_map, List.length_map]; exact l, RpL.freeze (F := []) hs (fun _ z => nomatch z) r⟩
  | .ins true C fs ds, v, F, k, h => by
    obtain ⟨a, dx, vs, F', e, s, rfl, l, r⟩ := h
    exact ⟨a, dx, vs, e, (k a List.mem_cons_self).trans s, rfl, by rw [frzL_map, List.length_map]; exact l, RpL.freeze hs (fun b z => k b (List.mem_cons_of_mem _ z)) r⟩
theorem RpL.freeze (hs : Sub G G') : ∀ {ds : List D} {vs : List V} {F : List Addr}, (∀ a ∈ F, G' a = H a) → RpL K G H ds vs F → RpL K G' H' (frzL ds) vs []
  | [], _, _, _, h => ⟨h.1, rfl⟩
  | d :: ds, vs, F, k, h => by
    obtain ⟨v, vs', F1, F2, rfl, rfl, r, rs⟩ := h
    exact ⟨v, vs', [], [], rfl, rfl, Rp.freeze hs (fun a z => k a (List.mem_append_left _ z)) r, RpL.freeze hs (fun a z => k a (List.mem_append_right _ z)) rs⟩
end
end
mutual
theorem frz_id : ∀ {d : D}, isFz d = true → frz d = d
  | .hole, _ => rfl
  | .val _, _ => rfl
  | .non, _ => rfl
  | .bl _, _ => rfl
  | .int _, _ => rfl
  | .str _, _ => rfl
  | .ty _, _ => rfl
  | .pin u d, q => by rw [frz, frz_id (d := d) q]
  | .exn _ _ _ row, q => by rw [frz, frz_id (d := row) q]
  | .tup xs, q => by rw [frz, frzL_id (by simpa [isFz] using q)]
  | .lst m xs, q => by
    obtain ⟨q1, q2⟩ := Bool.and_eq_true_iff.mp (show (!m && isFzL xs) = true from q)
    rw [frz, frzL_id q2, show m = false by simpa using q1]
  | .dK m ks xs, q => by
    obtain ⟨q1, q2⟩ := Bool.and_eq_true_iff.mp (show (!m && isFzL xs) = true from q)
    rw [frz, frzL_id q2, show m = false by simpa using q1]
  | .dT m ks xs, q => by
    obtain ⟨q1, q2⟩ := Bool.and_eq_true_iff.mp (show (!m && isFzL xs) = true from q)
    rw [frz, frzL_id q2, show m = false by simpa using q1]
  | .ins m C fs xs, q => by
    obtain ⟨q1, q2⟩ := Bool.and_eq_true_iff.mp (show (!m && isFzL xs) = true from q)
    rw [frz, frzL_id q2, show m = false by simpa using q1]
theorem frzL_id : ∀ {ds : List D}, isFzL ds = true → frzL ds = ds
  | [], _ => rfl
  | d :: ds, q => by
    obtain ⟨q1, q2⟩ := Bool.and_eq_true_iff.mp (show (isFz d && isFzL ds) = true from q)
    rw [frzL, frz_id q1, frzL_id q2]
end
mutual
theorem isFz_frz : ∀ d : D, isFz (frz d) = true
  | .hole => rfl
  | .val _ => rfl
  | .non => rfl
  | .bl _ => rfl
  | .int _ => rfl
  | .str _ => rfl
  | .ty _ => rfl
  | .pin u d => by rw [frz, isFz, isFz_frz]
  | .exn _ _ _ row => by rw [frz, isFz, isFz_frz]
  | .tup xs => by rw [frz, isFz, isFzL_frz]
  | .lst m xs => by rw [frz, isFz, isFzL_frz]; rfl
  | .dK m ks xs => by rw [frz, isFz, isFzL_frz]; rfl
  | .dT m ks xs => by rw [frz, isFz, isFzL_frz]; rfl
  | .ins m C fs xs => by rw [frz, isFz, isFzL_frz]; rfl
theorem isFzL_frz : ∀ ds : List D, isFzL (frzL ds) = true
  | [] => rfl
  | d :: ds => by rw [frzL, isFzL, isFz_frz, isFzL_frz]; rfl
end
end VL
/-! VL2: the state of a body: its slots and what it holds besides. -/
namespace VL
open PySem PySem.Spec PyProof.Rows L2 VL
abbrev Ep := List (Option D)
/-- a slot: told, or not told -/
def RpO (K : PySem.W.Frag) (G H : Hp) : Option D → Option V → List Addr → Prop
  | none, _, F => F = []
  | some d, ov, F => ∃ v, ov = some v ∧ Rp K G H d v F
def RpS (K : PySem.W.Frag) (G H : Hp) : Ep → L2.St → List Addr → Prop
  | [], σ, F => σ = [] ∧ F = []
  | od :: ε, σ, F => ∃ ov σ' F1 F2, σ = ov :: σ' ∧ F = F1 ++ F2 ∧ RpO K G H od ov F1 ∧ RpS K G H ε σ' F2
section
variable {K : PySem.W.Frag} {G G' H H' : Hp}
theorem RpO.mono (hs : Sub G G') {od : Option D} {ov : Option V} {F : List Addr} (k : ∀ a ∈ F, H' a = H a) (h : RpO K G H od ov F) : RpO K G' H' od ov F := by
  cases od with
  | none => exact h
  | some d =>
    obtain ⟨v, e, r⟩ := h
    exact ⟨v, e, r.mono hs k⟩
theorem RpS.mono (hs : Sub G G') : ∀ {ε : Ep} {σ : L2.St} {F : List Addr}, (∀ a ∈ F, H' a = H a) → RpS K G H ε σ F → RpS K G' H' ε σ F
  | [], _, _, _, h => h
  | od :: ε, σ, F, k, h => by
    obtain ⟨ov, σ', F1, F2, rfl, rfl, r, rs⟩ := h
    exact ⟨ov, σ', F1, F2, rfl, rfl, r.mono hs (fun a z => k a (List.mem_append_left _ z)), RpS.mono hs (fun a z => k a (List.mem_append_right _ z)) rs⟩
theorem RpS.there : ∀ {ε : Ep} {σ : L2.St} {F : List Addr}, RpS K G H ε σ F → ∀ a ∈ F, ∃ o, H a = some o ∧ Mut (some o)
  | [], _, _, h, a, z => by rw [h.2] at z; cases z
  | od :: ε, σ, F, h, a, z => by
    obtain ⟨ov, σ', F1, F2, rfl, rfl, r, rs⟩ := h
    rcases List.mem_append.mp z with z | z
    · cases od with
      | none => rw [show F1 = [] from r] at z; cases z
      | some d =>
        obtain ⟨v, _, r⟩ := r
        exact r.there a z
    · exact RpS.there rs a z
theorem RpS.focus : ∀ {ε : Ep} {σ : L2.St} {F : List Addr} {i : Nat} {od : Option D}, RpS K G H ε σ F → ε[i]? = some od →
    ∃ ov A B C, σ[i]? = some ov ∧ F = A ++ B ++ C ∧ RpO K G H od ov B ∧ ∀ (G' H' : Hp) (od' : Option D) (ov' : Option V) (B' : List Addr), Sub G G' → (∀ a ∈ A ++ C, H' a = H a) → RpO K G' H' od' ov' B' → RpS K G' H' (ε.set i od') (σ.set i ov') (A ++ B' ++ C)
  | [], _, _, _, _, _, e => by simp at e
  | od :: ε, σ, F, 0, od', h, e => by
    obtain ⟨ov, σ', F1, F2, rfl, rfl, r, rs⟩ := h
    simp at e
    subst e
    refine ⟨ov, [], F1, F2, rfl, rfl, r, fun G' H' od' ov' B' hs k r' => ?_⟩
    exact ⟨ov', σ', B', F2, rfl, rfl, r', RpS.mono hs k rs⟩
  | od :: ε, σ, F, i + 1, od', h, e => by
    obtain ⟨ov, σ', F1, F2, rfl, rfl, r, rs⟩ := h
    obtain ⟨w, A, B, C, hw, rfl, q, back⟩ := RpS.focus (i := i) rs (by simpa using e)
    refine ⟨w, F1 ++ A, B, C, by simpa using hw, by simp only [List.append_assoc], q, fun G' H' od'' ov'' B' hs k r' => ?_⟩
    refine ⟨ov, σ'.set i ov'', F1, A ++ B' ++ C, rfl, by simp only [List.append_assoc], r.mono hs (fun a z => k a ?_), back G' H' od'' ov'' B' hs (fun a z => k a ?_) r'⟩
    · exact List.mem_append_left _ (List.mem_append_left _ z)
    · rcases List.mem_append.mp z with z | z
      · exact List.mem_append_left _ (List.mem_append_right _ z)
      · exact List.mem_append_right _ z
theorem RpS.len : ∀ {ε : Ep} {σ : L2.St} {F : List Addr}, RpS K G H ε σ F → ε.length = σ.length
  | [], _, _, h => by rw [h.1]; rfl
  | od :: ε, σ, F, h => by
    obtain ⟨ov, σ', F1, F2, rfl, rfl, r, rs⟩ := h
    rw [List.length_cons, List.length_cons, RpS.len rs]
end

/-- the ground of a def's run: the heap at the entry, what stands still in it, what was handed in to be changed, the kept parameters' values -/
structure Bs where
  H0 : Hp
  G0 : Hp
  F0 : List Addr
  kv : List (Option V) := []
structure SIx (K : PySem.W.Frag) (b : Bs) (G : Hp) (F Ft : List Addr) (σ : L2.St) (H : Hp) (ε : Ep) (T : List D) (Tv : List V) : Prop where
  s0 : Sub b.G0 G
  sub : Sub G H
  slots : RpS K G H ε σ F
  temps : RpL K G H T Tv Ft
  nd : (F ++ Ft).Nodup
  fr : ∀ a ∈ F ++ Ft, G a = none
  own : ∀ a ∈ F ++ Ft, a ∈ b.F0 ∨ b.H0 a = none
  gn : ∀ a o, G a = some o → b.G0 a = some o ∨ a ∈ b.F0 ∨ b.H0 a = none ∨ ∃ vs, o = .tup vs
  keep : ∀ a o, b.H0 a = some o → a ∉ b.F0 → H a = some o
  kept : ∀ (j : Nat) v, b.kv[j]? = some (some v) → σ[j]? = some (some v)
theorem inl3 {p q r : Prop} (h : p ∨ q) : p ∨ q ∨ r := h.elim .inl fun h => .inr (.inl h)
def SI (K : PySem.W.Frag) (b : Bs) (σ : L2.St) (H : Hp) (ε : Ep) (T : List D) (Tv : List V) : Prop := ∃ G F Ft, SIx K b G F Ft σ H ε T Tv
section
variable {K : PySem.W.Frag} {b : Bs} {σ : L2.St} {H H' : Hp} {ε : Ep} {T : List D} {Tv : List V}
theorem SIx.lenT {G F Ft} (I : SIx K b G F Ft σ H ε T Tv) : T.length = Tv.length := I.temps.len
theorem SI.lenT (I : SI K b σ H ε T Tv) : T.length = Tv.length := let ⟨_, _, _, J⟩ := I; J.lenT
theorem SI.lenS (I : SI K b σ H ε T Tv) : ε.length = σ.length := let ⟨_, _, _, J⟩ := I; J.slots.len
theorem SIx.ne {G F Ft} (I : SIx K b G F Ft σ H ε T Tv) {p : Addr} (n : H p = none) : p ∉ F ++ Ft := fun z => by
  rcases List.mem_append.mp z with z | z
  · obtain ⟨o, e, _⟩ := I.slots.there p z
    rw [n] at e; cases e
  · obtain ⟨o, e, _⟩ := I.temps.there p z
    rw [n] at e; cases e
theorem SIx.gne {G F Ft} (I : SIx K b G F Ft σ H ε T Tv) {p : Addr} (n : H p = none) : G p = none := by
  cases e : G p with
  | none => rfl
  | some o =>
    have := I.sub p o e
    rw [n] at this; cases this
theorem SIx.h0 {G F Ft} (I : SIx K b G F Ft σ H ε T Tv) {p : Addr} (n : H p = none) : p ∈ b.F0 ∨ b.H0 p = none := by
  cases e : b.H0 p with
  | none => exact .inr rfl
  | some o =>
    by_cases h : p ∈ b.F0
    · exact .inl h
    · have := I.keep p o e h
      rw [n] at this; cases this
/-- the heap grows -/
theorem SIx.grow {G F Ft} (I : SIx K b G F Ft σ H ε T Tv) (h : Sub H H') : SIx K b G F Ft σ H' ε T Tv where
  s0 := I.s0
  sub := I.sub.trans h
  slots := I.slots.mono Sub.refl fun a z => by
    obtain ⟨o, e, _⟩ := I.slots.there a z
    rw [e, h a o e]
  temps := I.temps.mono Sub.refl fun a z => by
    obtain ⟨o, e, _⟩ := I.temps.there a z
    rw [e, h a o e]
  nd := I.nd
  fr := I.fr
  own := I.own
  gn := I.gn
  keep := fun a o e n => h a o (I.keep a o e n)
  kept := I.kept
theorem SI.grow (I : SI K b σ H ε T Tv) (h : Sub H H') : SI K b σ H' ε T Tv := let ⟨G, F, Ft, J⟩ := I; ⟨G, F, Ft, J.grow h⟩
/-- the last held things are let go -/
theorem SI.drop {R : List D} {Rv : List V} (I : SI K b σ H ε (T ++ R) (Tv ++ Rv)) (hl : T.length = Tv.length) : SI K b σ H ε T Tv := by
  obtain ⟨G, F, Ft, J⟩ := I
  obtain ⟨F1, F2, rfl, r1, r2⟩ := J.temps.split2 hl
  have sb : ∀ a, a ∈ F ++ F1 → a ∈ F ++ (F1 ++ F2) := fun a z => by
    rcases List.mem_append.mp z with z | z
    · exact List.mem_append_left _ z
    · exact List.mem_append_right _ (List.mem_append_left _ z)
  refine ⟨G, F, F1, J.s0, J.sub, J.slots, r1, ?_, fun a z => J.fr a (sb a z), fun a z => J.own a (sb a z), J.gn, J.keep, J.kept⟩
  have := J.nd
  rw [← List.append_assoc] at this
  exact (List.nodup_append.mp this).1
/-- a thing that stands still is held -/
theorem SIx.push {G F Ft} (I : SIx K b G F Ft σ H ε T Tv) {d : D} {v : V} (r : Rp K G H d v []) : SIx K b G F Ft σ H ε (T ++ [d]) (Tv ++ [v]) := by
  have h := I.temps.append (RpL.one.mpr r)
  rw [List.append_nil] at h
  exact ⟨I.s0, I.sub, I.slots, h, I.nd, I.fr, I.own, I.gn, I.keep, I.kept⟩
theorem SI.push (I : SI K b σ H ε T Tv) {d : D} {v : V} (r : ∀ G, Rp K G H d v []) : SI K b σ H ε (T ++ [d]) (Tv ++ [v]) := let ⟨G, F, Ft, J⟩ := I; ⟨G, F, Ft, J.push (r G)⟩
/-- a slot that stands still -/
theorem SI.var (I : SI K b σ H ε T Tv) {i : Nat} {d : D} (e : ε[i]? = some (some d)) (z : isFz d = true) : ∃ v, σ[i]? = some (some v) ∧ SI K b σ H ε (T ++ [d]) (Tv ++ [v]) := by
  obtain ⟨G, F, Ft, J⟩ := I
  obtain ⟨ov, A, B, C, hs, rfl, r, _⟩ := J.slots.focus e
  obtain ⟨v, rfl, r⟩ := r
  have := r.fz z
  subst this
  exact ⟨v, hs, G, _, Ft, J.push r⟩
/-- a slot is moved out -/
theorem SI.mov (I : SI K b σ H ε T Tv) {i : Nat} {d : D} (e : ε[i]? = some (some d)) : ∃ v, σ[i]? = some (some v) ∧ SI K b σ H (ε.set i none) (T ++ [d]) (Tv ++ [v]) := by
  obtain ⟨G, F, Ft, J⟩ := I
  obtain ⟨ov, A, B, C, hs, rfl, r, back⟩ := J.slots.focus e
  obtain ⟨v, rfl, r⟩ := r
  have s2 := back G H none (some v) [] Sub.refl (fun _ _ => rfl) rfl
  have es : σ.set i (some v) = σ := by
    apply List.ext_getElem?
    intro j
    rw [List.getElem?_set]
    split
    · rename_i h
      subst h
      split
      · exact hs.symm
      · rename_i h
        rw [List.getElem?_eq_none (by omega)] at hs
        cases hs
    · rfl
  rw [es, List.append_nil] at s2
  have pm : (A ++ B ++ C ++ Ft).Perm (A ++ C ++ (Ft ++ B)) := by
    have h1 : (A ++ B ++ C ++ Ft).Perm (A ++ C ++ Ft ++ B) := by
      have : (A ++ B ++ (C ++ Ft)).Perm (A ++ (C ++ Ft) ++ B) := by
        rw [List.append_assoc, List.append_assoc]
        exact List.Perm.append_left A List.perm_append_comm
      simpa only [List.append_assoc] using this
    simpa only [List.append_assoc] using h1
  refine ⟨v, hs, G, A ++ C, Ft ++ B, J.s0, J.sub, s2, J.temps.append (RpL.one.mpr r), pm.nodup_iff.mp J.nd, fun a z => J.fr a (pm.mem_iff.mpr z), fun a z => J.own a (pm.mem_iff.mpr z), J.gn, J.keep, J.kept⟩
/-- the last held thing goes to a slot; what was there is let go -/
theorem SI.store {d : D} {v : V} (I : SI K b σ H ε (T ++ [d]) (Tv ++ [v])) (hl : T.length = Tv.length) {i : Nat} (hi : i < ε.length) (hk : ∀ u, b.kv[i]? ≠ some (some u)) : SI K b (σ.set i (some v)) H (ε.set i (some d)) T Tv := by
  obtain ⟨G, F, Ft, J⟩ := I
  obtain ⟨F1, F2, rfl, r1, r2⟩ := J.temps.split2 hl
  have r2 := RpL.one.mp r2
  obtain ⟨ov, A, B, C, hs, rfl, r, back⟩ := J.slots.focus (i := i) (List.getElem?_eq_getElem hi)
  have s2 := back G H (some d) (some v) F2 Sub.refl (fun _ _ => rfl) ⟨v, rfl, r2⟩
  have sb : ∀ a, a ∈ A ++ F2 ++ C ++ F1 → a ∈ A ++ B ++ C ++ (F1 ++ F2) := fun a z => by
    simp only [List.mem_append] at z ⊢
    rcases z with ((z | z) | z) | z
    · exact .inl (.inl (.inl z))
    · exact .inr (.inr z)
    · exact .inl (.inr z)
    · exact .inr (.inl z)
  have nd : (A ++ F2 ++ C ++ F1).Nodup := by
    have h1 : (A ++ B ++ C ++ (F1 ++ F2)).Perm (B ++ (A ++ F2 ++ C ++ F1)) := by
      apply List.perm_iff_count.mpr
      intro a
      simp only [List.count_append]
      omega
    exact (List.nodup_append.mp (h1.nodup_iff.mp J.nd)).2.1
  refine ⟨G, _, F1, J.s0, J.sub, s2, r1, nd, fun a z => J.fr a (sb a z), fun a z => J.own a (sb a z), J.gn, J.keep, fun j u e => ?_⟩
  have hj : i ≠ j := fun z => by
    subst z
    exact hk u e
  rw [List.getElem?_set_ne hj]
  exact J.kept j u e
/-- a slot is told again that was moved out, its value as it was -/
theorem SI.back {d : D} {v : V} (I : SI K b σ H ε (T ++ [d]) (Tv ++ [v])) (hl : T.length = Tv.length) {i : Nat} (hs : σ[i]? = some (some v)) : SI K b σ H (ε.set i (some d)) T Tv := by
  obtain ⟨G, F, Ft, J⟩ := I
  obtain ⟨F1, F2, rfl, r1, r2⟩ := J.temps.split2 hl
  have r2 := RpL.one.mp r2
  have hi : i < ε.length := by
    rw [J.slots.len]
    exact (List.getElem?_eq_some_iff.mp hs).1
  obtain ⟨ov, A, B, C, hs', rfl, r, back⟩ := J.slots.focus (i := i) (List.getElem?_eq_getElem hi)
  have s2 := back G H (some d) (some v) F2 Sub.refl (fun _ _ => rfl) ⟨v, rfl, r2⟩
  have es : σ.set i (some v) = σ := by
    apply List.ext_getElem?
    intro j
    rw [List.getElem?_set]
    split
    · rename_i h
      subst h
      split
      · exact hs.symm
      · rename_i h
        rw [List.getElem?_eq_none (by omega)] at hs
        cases hs
    · rfl
  rw [es] at s2
  have sb : ∀ a, a ∈ A ++ F2 ++ C ++ F1 → a ∈ A ++ B ++ C ++ (F1 ++ F2) := fun a z => by
    simp only [List.mem_append] at z ⊢
    rcases z with ((z | z) | z) | z
    · exact .inl (.inl (.inl z))
    · exact .inr (.inr z)
    · exact .inl (.inr z)
    · exact .inr (.inl z)
  have nd : (A ++ F2 ++ C ++ F1).Nodup := by
    have h1 : (A ++ B ++ C ++ (F1 ++ F2)).Perm (B ++ (A ++ F2 ++ C ++ F1)) := by
      apply List.perm_iff_count.mpr
      intro a
      simp only [List.count_append]
      omega
    exact (List.nodup_append.mp (h1.nodup_iff.mp J.nd)).2.1
  exact ⟨G, _, F1, J.s0, J.sub, s2, r1, nd, fun a z => J.fr a (sb a z), fun a z => J.own a (sb a z), J.gn, J.keep, J.kept⟩
/-- the last held thing is let stand still -/
theorem SI.freeze {d : D} {v : V} (I : SI K b σ H ε (T ++ [d]) (Tv ++ [v])) (hl : T.length = Tv.length) : SI K b σ H ε (T ++ [frz d]) (Tv ++ [v]) := by
  obtain ⟨G, F, Ft, J⟩ := I
  obtain ⟨F1, F2, rfl, r1, r2⟩ := J.temps.split2 hl
  have r2 := RpL.one.mp r2
  let G' : Hp := fun a => if a ∈ F2 then H a else G a
  have g1 : ∀ a ∈ F2, G' a = H a := fun a z => if_pos z
  have g2 : ∀ a, a ∉ F2 → G' a = G a := fun a z => if_neg z
  have nF : ∀ a ∈ F2, G a = none := fun a z => J.fr a (List.mem_append_right _ (List.mem_append_right _ z))
  have hs : Sub G G' := fun a o e => by
    by_cases h : a ∈ F2
    · rw [nF a h] at e; cases e
    · rw [g2 a h]; exact e
  have dj : ∀ a ∈ F ++ F1, a ∉ F2 := fun a z h => by
    have := J.nd
    rw [← List.append_assoc] at this
    exact (List.nodup_append.mp this).2.2 a z a h rfl
  have sb : ∀ a, a ∈ F ++ F1 → a ∈ F ++ (F1 ++ F2) := fun a z => by
    rcases List.mem_append.mp z with z | z
    · exact List.mem_append_left _ z
    · exact List.mem_append_right _ (List.mem_append_left _ z)
  refine ⟨G', F, F1, J.s0.trans hs, fun a o e => ?_, J.slots.mono hs (fun _ _ => rfl), ?_, ?_, fun a z => ?_, fun a z => J.own a (sb a z), fun a o e => ?_, J.keep, J.kept⟩
  · by_cases h : a ∈ F2
    · rw [g1 a h] at e; exact e
    · rw [g2 a h] at e; exact J.sub a o e
  · have := (r1.mono (H' := H) hs (fun _ _ => rfl)).append (RpL.one.mpr (Rp.freeze (H' := H) hs g1 r2))
    rw [List.append_nil] at this
    exact this
  · have := J.nd
    rw [← List.append_assoc] at this
    exact (List.nodup_append.mp this).1
  · rw [g2 a (dj a z)]
    exact J.fr a (sb a z)
  · by_cases h : a ∈ F2
    · exact .inr (inl3 (J.own a (List.mem_append_right _ (List.mem_append_right _ h))))
    · rw [g2 a h] at e
      exact J.gn a o e
/-- a new object that is ours, out of the last held things -/
theorem SI.laid {ds : List D} {vs : List V} (I : SI K b σ H ε (T ++ ds) (Tv ++ vs)) (hl : T.length = Tv.length) {p : Addr} (n : H p = none) (o : HO) {d : D}
    (r : ∀ (G H' : Hp) (F : List Addr), H' p = some o → RpL K G H' ds vs F → Rp K G H' d (.ref p) (p :: F)) : SI K b σ (upd H p o) ε (T ++ [d]) (Tv ++ [.ref p]) := by
  obtain ⟨G, F, Ft, J⟩ := I
  obtain ⟨F1, F2, rfl, r1, r2⟩ := J.temps.split2 hl
  have np := J.ne n
  have su : Sub H (upd H p o) := Sub.laid n
  have ev : ∀ a ∈ F ++ (F1 ++ F2), upd H p o a = H a := fun a z => upd_ne fun e => np (e ▸ z)
  refine ⟨G, F, F1 ++ (p :: F2), J.s0, J.sub.trans su, J.slots.mono Sub.refl fun a z => ev a (List.mem_append_left _ z), ?_, ?_, fun a z => ?_, fun a z => ?_, J.gn, fun a u e h => su a u (J.keep a u e h), J.kept⟩
  · refine (r1.mono Sub.refl fun a z => ev a (List.mem_append_right _ (List.mem_append_left _ z))).append (RpL.one.mpr ?_)
    exact r G _ F2 upd_same (r2.mono Sub.refl fun a z => ev a (List.mem_append_right _ (List.mem_append_right _ z)))
  · have h1 : (F ++ (F1 ++ (p :: F2))).Perm (p :: (F ++ (F1 ++ F2))) := by
      apply List.perm_iff_count.mpr
      intro a
      simp only [List.count_append, List.count_cons]
      omega
    exact h1.nodup_iff.mpr (List.nodup_cons.mpr ⟨np, J.nd⟩)
  · by_cases h : a = p
    · subst h; exact J.gne n
    · refine J.fr a ?_
      simp only [List.mem_append, List.mem_cons] at z ⊢
      rcases z with z | z | z | z
      · exact .inl z
      · exact .inr (.inl z)
      · exact absurd z h
      · exact .inr (.inr z)
  · by_cases h : a = p
    · subst h; exact J.h0 n
    · refine J.own a ?_
      simp only [List.mem_append, List.mem_cons] at z ⊢
      rcases z with z | z | z | z
      · exact .inl z
      · exact .inr (.inl z)
      · exact absurd z h
      · exact .inr (.inr z)
/-- a new tuple out of the last held things -/
theorem SI.tup {ds : List D} {vs : List V} (I : SI K b σ H ε (T ++ ds) (Tv ++ vs)) (hl : T.length = Tv.length) {p : Addr} (n : H p = none) : SI K b σ (upd H p (.tup vs)) ε (T ++ [.tup ds]) (Tv ++ [.ref p]) := by
  obtain ⟨G, F, Ft, J⟩ := I
  obtain ⟨F1, F2, rfl, r1, r2⟩ := J.temps.split2 hl
  have np := J.ne n
  have gp := J.gne n
  have su : Sub H (upd H p (.tup vs)) := Sub.laid n
  have sg : Sub G (upd G p (.tup vs)) := Sub.laid gp
  have ev : ∀ a ∈ F ++ (F1 ++ F2), upd H p (.tup vs) a = H a := fun a z => upd_ne fun e => np (e ▸ z)
  refine ⟨upd G p (.tup vs), F, F1 ++ F2, J.s0.trans sg, J.sub.upd2, J.slots.mono sg fun a z => ev a (List.mem_append_left _ z), ?_, J.nd, fun a z => ?_, J.own, fun a o e => ?_, fun a u e h => su a u (J.keep a u e h), J.kept⟩
  · refine (r1.mono sg fun a z => ev a (List.mem_append_right _ (List.mem_append_left _ z))).append (RpL.one.mpr ?_)
    exact ⟨p, vs, rfl, upd_same, r2.mono sg fun a z => ev a (List.mem_append_right _ (List.mem_append_right _ z))⟩
  · have ha : a ≠ p := fun e => np (e ▸ z)
    rw [upd_ne ha]
    exact J.fr a z
  · by_cases h : a = p
    · subst h; exact .inr (inl3 (J.h0 n))
    · rw [upd_ne h] at e
      exact J.gn a o e
end
end VL
/-! VL3: the judgements over trees; names, constants, arguments, operators. -/
namespace VL
open PySem PySem.Spec PyProof.Rows L2 VL
section
variable {K : PySem.W.Frag} {b : Bs} {σ : L2.St} {H H' : Hp} {ε : Ep} {T : List D} {Tv : List V}
theorem setSelf {α : Type} {l : List α} {i : Nat} {x : α} (h : l[i]? = some x) : l.set i x = l := by
  apply List.ext_getElem?
  intro j
  rw [List.getElem?_set]
  split
  · rename_i e
    subst e
    split
    · exact h.symm
    · rename_i e
      rw [List.getElem?_eq_none (by omega)] at h
      cases h
  · rfl
/-- a held thing amid others is let go -/
theorem SI.midDrop {d : D} {v : V} {R : List D} {Rv : List V} (I : SI K b σ H ε (T ++ d :: R) (Tv ++ v :: Rv)) (hl : T.length = Tv.length) : SI K b σ H ε (T ++ R) (Tv ++ Rv) := by
  obtain ⟨G, F, Ft, J⟩ := I
  obtain ⟨F1, F2, rfl, r1, r2⟩ := J.temps.split2 hl
  obtain ⟨v', vs', A, B, e, rfl, rd, rs⟩ := r2
  obtain ⟨rfl, rfl⟩ := List.cons.inj e
  have sb : ∀ a, a ∈ F ++ (F1 ++ B) → a ∈ F ++ (F1 ++ (A ++ B)) := fun a z => by
    simp only [List.mem_append] at z ⊢
    rcases z with z | z | z
    · exact .inl z
    · exact .inr (.inl z)
    · exact .inr (.inr (.inr z))
  have nd : (F ++ (F1 ++ B)).Nodup := by
    have h1 : (F ++ (F1 ++ (A ++ B))).Perm (A ++ (F ++ (F1 ++ B))) := by
      apply List.perm_iff_count.mpr
      intro a
      simp only [List.count_append]
      omega
    exact (List.nodup_append.mp (h1.nodup_iff.mp J.nd)).2.1
  exact ⟨G, F, F1 ++ B, J.s0, J.sub, J.slots, r1.append rs, nd, fun a z => J.fr a (sb a z), fun a z => J.own a (sb a z), J.gn, J.keep, J.kept⟩
/-- a held thing amid others goes back to its slot -/
theorem SI.midBack {d : D} {v : V} {R : List D} {Rv : List V} (I : SI K b σ H ε (T ++ d :: R) (Tv ++ v :: Rv)) (hl : T.length = Tv.length) {i : Nat} (hs : σ[i]? = some (some v)) : SI K b σ H (ε.set i (some d)) (T ++ R) (Tv ++ Rv) := by
  obtain ⟨G, F, Ft, J⟩ := I
  obtain ⟨F1, F2, rfl, r1, r2⟩ := J.temps.split2 hl
  obtain ⟨v', vs', A, B, e, rfl, rd, rs⟩ := r2
  obtain ⟨rfl, rfl⟩ := List.cons.inj e
  have hi : i < ε.length := by
    rw [J.slots.len]
    exact (List.getElem?_eq_some_iff.mp hs).1
  obtain ⟨ov, C, E, L, hs', rfl, ro, back⟩ := J.slots.focus (i := i) (List.getElem?_eq_getElem hi)
  have s2 := back G H (some d) (some v) A Sub.refl (fun _ _ => rfl) ⟨v, rfl, rd⟩
  rw [setSelf hs] at s2
  have sb : ∀ a, a ∈ C ++ A ++ L ++ (F1 ++ B) → a ∈ C ++ E ++ L ++ (F1 ++ (A ++ B)) := fun a z => by
    simp only [List.mem_append] at z ⊢
    rcases z with ((z | z) | z) | z | z
    · exact .inl (.inl (.inl z))
    · exact .inr (.inr (.inl z))
    · exact .inl (.inr z)
    · exact .inr (.inl z)
    · exact .inr (.inr (.inr z))
  have nd : (C ++ A ++ L ++ (F1 ++ B)).Nodup := by
    have h1 : (C ++ E ++ L ++ (F1 ++ (A ++ B))).Perm (E ++ (C ++ A ++ L ++ (F1 ++ B))) := by
      apply List.perm_iff_count.mpr
      intro a
      simp only [List.count_append]
      omega
    exact (List.nodup_append.mp (h1.nodup_iff.mp J.nd)).2.1
  exact ⟨G, _, F1 ++ B, J.s0, J.sub, s2, r1.append rs, nd, fun a z => J.fr a (sb a z), fun a z => J.own a (sb a z), J.gn, J.keep, J.kept⟩
end
/-- arguments that were moved out of slots go back, the others are let go -/
def restore : List (Option Nat) → List D → Ep → Ep
  | some i :: rs, d :: ds, ε => restore rs ds (ε.set i (some d))
  | none :: rs, _ :: ds, ε => restore rs ds ε
  | _, _, ε => ε
def Held (σ : L2.St) : List (Option Nat) → List V → Prop
  | [], [] => True
  | some i :: rs, v :: vs => σ[i]? = some (some v) ∧ Held σ rs vs
  | none :: rs, _ :: vs => Held σ rs vs
  | _, _ => False
theorem Held.len {σ : L2.St} : ∀ {rs : List (Option Nat)} {vs : List V}, Held σ rs vs → rs.length = vs.length
  | [], [], _ => rfl
  | some i :: rs, v :: vs, h => by rw [List.length_cons, List.length_cons, Held.len h.2]
  | none :: rs, v :: vs, h => by rw [List.length_cons, List.length_cons, Held.len (rs := rs) (vs := vs) h]
  | [], _ :: _, h => h.elim
  | some _ :: _, [], h => h.elim
  | none :: _, [], h => h.elim
theorem Held.append {σ : L2.St} : ∀ {rs rs' : List (Option Nat)} {vs vs' : List V}, Held σ rs vs → Held σ rs' vs' → Held σ (rs ++ rs') (vs ++ vs')
  | [], _, [], _, _, k => k
  | some i :: rs, _, v :: vs, _, h, k => ⟨h.1, Held.append h.2 k⟩
  | none :: rs, _, v :: vs, _, h, k => Held.append (rs := rs) (vs := vs) h k
  | [], _, _ :: _, _, h, _ => h.elim
  | some _ :: _, _, [], _, h, _ => h.elim
  | none :: _, _, [], _, h, _ => h.elim
theorem SI.restore {K : PySem.W.Frag} {b : Bs} {σ : L2.St} {H : Hp} {T : List D} {Tv : List V} {R : List D} {Rv : List V} (hl : T.length = Tv.length) :
    ∀ {rs : List (Option Nat)} {ds : List D} {vs : List V} {ε : Ep}, Held σ rs vs → ds.length = vs.length → SI K b σ H ε (T ++ (ds ++ R)) (Tv ++ (vs ++ Rv)) → SI K b σ H (VL.restore rs ds ε) (T ++ R) (Tv ++ Rv)
  | [], [], [], ε, _, _, I => I
  | some i :: rs, d :: ds, v :: vs, ε, h, e, I => SI.restore hl (rs := rs) h.2 (Nat.succ.inj e) (SI.midBack I hl h.1)
  | none :: rs, d :: ds, v :: vs, ε, h, e, I => SI.restore hl (rs := rs) (vs := vs) h (Nat.succ.inj e) (SI.midDrop I hl)
  | [], _ :: _, [], _, _, e, _ => by cases e
  | [], _, _ :: _, _, h, _, _ => h.elim
  | some _ :: _, _, [], _, h, _, _ => h.elim
  | none :: _, _, [], _, h, _, _ => h.elim
  | some _ :: _, [], _ :: _, _, _, e, _ => by cases e
  | none :: _, [], _ :: _, _, _, e, _ => by cases e

/-- what is wished of an exception: its class, its row, the slots -/
abbrev WV := Value → D → Ep → Prop
abbrev VTE := WV → Ep → (D → Ep → Prop) → Prop
abbrev VTT := WV → Ep → (Bool → Ep → Prop) → Prop
abbrev VTA := WV → Ep → (List D → Ep → Prop) → Prop
structure VEnds where
  nx : Ep → Prop
  rt : D → Ep → Prop
  bk : Ep → Prop := fun _ => False
  ct : Ep → Prop := fun _ => False
  rx : WV
abbrev VTS := VEnds → Ep → Prop
/-- an own exception class is told by its name -/
def clsV (K : PySem.W.Frag) : Value → Value
  | .type s => .ref (He.ga K (Str.ofString s))
  | v => v
/-- an exception of ours: it has its dict, with the field row -/
def XL (K : PySem.W.Frag) (b : Bs) (T : List D) (Tv : List V) (W : WX) (N : WV) : Prop := ∀ cls (dd : Addr) σ H ε row v, SI K b σ H ε (T ++ [row]) (Tv ++ [v]) → H dd = some (.xd [("row", v)]) → (dd ∈ b.F0 ∨ b.H0 dd = none) → N cls row ε → W (clsV K cls) (some dd) σ H
theorem XL.more {K : PySem.W.Frag} {b : Bs} {T R : List D} {Tv Rv : List V} {W : WX} {N : WV} (hl : T.length = Tv.length) (hr : R.length = Rv.length) (x : XL K b T Tv W N) : XL K b (T ++ R) (Tv ++ Rv) W N := fun cls dd σ H ε row v I e fr n => by
  refine x cls dd σ H ε row v ?_ e fr n
  have h : Held σ (R.map fun _ => none) Rv := by
    clear I x
    induction R generalizing Rv with
    | nil =>
      cases Rv with
      | nil => exact trivial
      | cons _ _ => cases hr
    | cons r R ih =>
      cases Rv with
      | nil => cases hr
      | cons v Rv => exact ih (Nat.succ.inj hr)
  rw [List.append_assoc, List.append_assoc] at I
  have := SI.restore hl h hr I
  have z : VL.restore (R.map fun _ => none) R ε = ε := by
    clear this h I x hr
    induction R with
    | nil => rfl
    | cons r R ih => exact ih
  rw [z] at this
  exact this
/-- the context of a body, and which of its slots are kept: parameters that the body never stores into -/
structure Cv extends Cx where
  κ : List Bool
instance : Coe Cv Cx := ⟨Cv.toCx⟩
/-- a ground that keeps no other slot -/
abbrev Bx (X : Cv) := { b : Bs // ∀ (i : Nat) u, b.kv[i]? = some (some u) → X.κ[i]? = some true }
structure VE (X : Cv) (e : Expr) (t : VTE) : Prop where
  ex : ∃ t' : WX → TE, (∀ W, Takes X.toCx W → PE X.toCx e (t' W)) ∧ ∀ (b : Bx X) σ H ε T Tv W N Q Q', SI X.K b.1 σ H ε T Tv → t N ε Q →
    (∀ d v ε' H', SI X.K b.1 σ H' ε' (T ++ [d]) (Tv ++ [v]) → Q d ε' → Q' v H') → XL X.K b.1 T Tv W N → t' W σ H Q'
structure VT (X : Cv) (e : Expr) (t : VTT) : Prop where
  ex : ∃ t' : WX → TT, (∀ W, Takes X.toCx W → PT X.toCx e (t' W)) ∧ ∀ (b : Bx X) σ H ε T Tv W N Q Q', SI X.K b.1 σ H ε T Tv → t N ε Q →
    (∀ c ε' H', SI X.K b.1 σ H' ε' T Tv → Q c ε' → Q' c H') → XL X.K b.1 T Tv W N → t' W σ H Q'
/-- a test in a chain of and, or -/
structure VW (X : Cv) (e : Expr) (t : VTT) : Prop where
  ex : ∃ t' : WX → TT, (∀ W, Takes X.toCx W → PW X.toCx e (t' W)) ∧ ∀ (b : Bx X) σ H ε T Tv W N Q Q', SI X.K b.1 σ H ε T Tv → t N ε Q →
    (∀ c ε' H', SI X.K b.1 σ H' ε' T Tv → Q c ε' → Q' c H') → XL X.K b.1 T Tv W N → t' W σ H Q'
/-- one argument; r: the slot from which it is moved -/
structure VG (X : Cv) (e : Expr) (r : Option Nat) (t : VTE) : Prop where
  ex : ∃ t' : WX → TE, (∀ W, Takes X.toCx W → PE X.toCx e (t' W)) ∧ ∀ (b : Bx X) σ H ε T Tv W N Q Q', SI X.K b.1 σ H ε T Tv → t N ε Q →
    (∀ d v ε' H', SI X.K b.1 σ H' ε' (T ++ [d]) (Tv ++ [v]) → Held σ [r] [v] → Q d ε' → Q' v H') → XL X.K b.1 T Tv W N → t' W σ H Q'
structure VA (X : Cv) (es : List Expr) (rs : List (Option Nat)) (t : VTA) : Prop where
  ex : ∃ t' : WX → TA, (∀ W, Takes X.toCx W → PA X.toCx es (t' W)) ∧ ∀ (b : Bx X) σ H ε T Tv W N Q Q', SI X.K b.1 σ H ε T Tv → t N ε Q →
    (∀ ds vs ε' H', SI X.K b.1 σ H' ε' (T ++ ds) (Tv ++ vs) → ds.length = vs.length → Held σ rs vs → Q ds ε' → Q' vs H') → XL X.K b.1 T Tv W N → t' W σ H Q'
/-- the ends of a statement -/
structure EL (K : PySem.W.Frag) (b : Bs) (T : List D) (Tv : List V) (N : VEnds) (E : Ends) : Prop where
  nx : ∀ σ H ε, SI K b σ H ε T Tv → N.nx ε → E.nx σ H
  rt : ∀ σ H ε d v, SI K b σ H ε (T ++ [d]) (Tv ++ [v]) → N.rt d ε → E.rt v H
  bk : ∀ σ H ε, SI K b σ H ε T Tv → N.bk ε → E.bk σ H
  ct : ∀ σ H ε, SI K b σ H ε T Tv → N.ct ε → E.ct σ H
structure VS (X : Cv) (st : Stmt) (t : VTS) : Prop where
  ex : ∃ t' : WX → TS, (∀ W, Takes X.toCx W → PS X.toCx st (t' W)) ∧ ∀ (b : Bx X) σ H ε T Tv W N E, SI X.K b.1 σ H ε T Tv → t N ε → EL X.K b.1 T Tv N E → XL X.K b.1 T Tv W N.rx → t' W E σ H
structure VSs (X : Cv) (st : List Stmt) (t : VTS) : Prop where
  ex : ∃ t' : WX → TS, (∀ W, Takes X.toCx W → PSs X.toCx st (t' W)) ∧ ∀ (b : Bx X) σ H ε T Tv W N E, SI X.K b.1 σ H ε T Tv → t N ε → EL X.K b.1 T Tv N E → XL X.K b.1 T Tv W N.rx → t' W E σ H

section
variable {X : Cv}
/-! ### names, constants -/
def vVar (i : Nat) : VTE := fun _ ε Q => ∃ d, ε[i]? = some (some d) ∧ isFz d = true ∧ Q d ε
def vMov (i : Nat) : VTE := fun _ ε Q => ∃ d, ε[i]? = some (some d) ∧ Q d (ε.set i none)
def vFrz (i : Nat) : VTE := fun _ ε Q => ∃ d, ε[i]? = some (some d) ∧ Q (frz d) (ε.set i (some (frz d)))
def vC (d : D) : VTE := fun _ ε Q => Q d ε
theorem ve_var {i : Nat} {x : Str} {pos : Pos} (hN : X.N[i]? = some x) (hv : Vis X.env.scope x) (hd : (x == ("__debug__" : Str)) = false := by decide) (hcd : (x == ("__classdict__" : Str)) = false := by decide) : VE X (.Name x pos) (vVar i) := by
  refine ⟨fun _ => tVar i, fun _ _ => pe_var hN hv hd hcd, fun b σ H ε T Tv W N Q Q' I h k _ => ?_⟩
  obtain ⟨d, e, z, q⟩ := h
  obtain ⟨v, hs, J⟩ := I.var e z
  exact ⟨v, hs, k d v ε H J q⟩
theorem ve_mov {i : Nat} {x : Str} {pos : Pos} (hN : X.N[i]? = some x) (hv : Vis X.env.scope x) (hd : (x == ("__debug__" : Str)) = false := by decide) (hcd : (x == ("__classdict__" : Str)) = false := by decide) : VE X (.Name x pos) (vMov i) := by
  refine ⟨fun _ => tVar i, fun _ _ => pe_var hN hv hd hcd, fun b σ H ε T Tv W N Q Q' I h k _ => ?_⟩
  obtain ⟨d, e, q⟩ := h
  obtain ⟨v, hs, J⟩ := I.mov e
  exact ⟨v, hs, k d v _ H J q⟩
theorem ve_frz {i : Nat} {x : Str} {pos : Pos} (hN : X.N[i]? = some x) (hv : Vis X.env.scope x) (hd : (x == ("__debug__" : Str)) = false := by decide) (hcd : (x == ("__classdict__" : Str)) = false := by decide) : VE X (.Name x pos) (vFrz i) := by
  refine ⟨fun _ => tVar i, fun _ _ => pe_var hN hv hd hcd, fun b σ H ε T Tv W N Q Q' I h k _ => ?_⟩
  obtain ⟨d, e, q⟩ := h
  obtain ⟨v, hs, J⟩ := I.mov e
  have J2 := (J.freeze I.lenT).back I.lenT hs
  have e2 : (ε.set i none).set i (some (frz d)) = ε.set i (some (frz d)) := by simp
  rw [e2] at J2
  have hi := (List.getElem?_eq_some_iff.mp e).1
  obtain ⟨v', hs', J3⟩ := J2.var (i := i) (d := frz d) (by simp [hi]) (isFz_frz d)
  rw [hs] at hs'
  cases hs'
  exact ⟨v, hs, k (frz d) v _ H J3 q⟩
/-- a value of its own, without the heap -/
def Scal : V → D → Prop := fun v d => ∀ K G H, Rp K G H d v []
theorem vc_of {e : Expr} {v : V} {d : D} (h : PE X.toCx e (tC v)) (r : ∀ G H, Rp X.K G H d v []) : VE X e (vC d) :=
  ⟨fun _ => tC v, fun _ _ => h, fun b σ H ε T Tv W N Q Q' I q k _ => k d v ε H (I.push fun G => r G H) q⟩
theorem ve_int {i j pos} : VE X (.Constant (.int i) j pos) (vC (.int i)) := vc_of pe_int fun _ _ => ⟨rfl, rfl⟩
theorem ve_bl {b j pos} : VE X (.Constant (.bool b) j pos) (vC (.bl b)) := vc_of pe_bl fun _ _ => ⟨rfl, rfl⟩
theorem ve_non {j pos} : VE X (.Constant .none j pos) (vC .non) := vc_of pe_non fun _ _ => ⟨rfl, rfl⟩
theorem ve_str {s : Cs} {x : Str} {j pos} (h : x.cps.toList = s) : VE X (.Constant (.str x) j pos) (vC (.str s)) := vc_of pe_str fun _ _ => ⟨by rw [← h, toS_cps], rfl⟩
/-- a module's constant -/
theorem ve_glob {x : Str} {u : Value} {v : V} {d : D} {pos : Pos} (hg : Gl X.toCx x) (hm : X.mg x = some u) (r : RelV v u) (q : ∀ G H, Rp X.K G H d v []) (hd : (x == ("__debug__" : Str)) = false := by decide) : VE X (.Name x pos) (vC d) :=
  vc_of (pe_glob hg hm r hd) q

/-! ### arguments -/
theorem vg_val {e : Expr} {t : VTE} (h : VE X e t) : VG X e none t := by
  obtain ⟨t', h1, h2⟩ := h.ex
  exact ⟨t', h1, fun b σ H ε T Tv W N Q Q' I q k x => h2 b σ H ε T Tv W N Q Q' I q (fun d v ε' H' J z => k d v ε' H' J trivial z) x⟩
theorem vg_ref {i : Nat} {x : Str} {pos : Pos} (hN : X.N[i]? = some x) (hv : Vis X.env.scope x) (hd : (x == ("__debug__" : Str)) = false := by decide) (hcd : (x == ("__classdict__" : Str)) = false := by decide) : VG X (.Name x pos) (some i) (vMov i) := by
  refine ⟨fun _ => tVar i, fun _ _ => pe_var hN hv hd hcd, fun b σ H ε T Tv W N Q Q' I h k _ => ?_⟩
  obtain ⟨d, e, q⟩ := h
  obtain ⟨v, hs, J⟩ := I.mov e
  exact ⟨v, hs, k d v _ H J ⟨hs, trivial⟩ q⟩
def vaNil : VTA := fun _ ε Q => Q [] ε
def vaCons (t : VTE) (u : VTA) : VTA := fun N ε Q => t N ε fun d ε1 => u N ε1 fun ds ε2 => Q (d :: ds) ε2
theorem va_nil : VA X [] [] vaNil := ⟨fun _ => tNil, fun _ _ => pa_nil, fun b σ H ε T Tv W N Q Q' I h k _ => k [] [] ε H (by simpa using I) rfl trivial h⟩
theorem va_cons {e : Expr} {es : List Expr} {r : Option Nat} {rs : List (Option Nat)} {t : VTE} {u : VTA} (h : VG X e r t) (k : VA X es rs u) (hs : starEach (e :: es) X.env = (false, eval e X.env) :: starEach es X.env := by rfl) : VA X (e :: es) (r :: rs) (vaCons t u) := by
  obtain ⟨t', h1, h2⟩ := h.ex
  obtain ⟨u', k1, k2⟩ := k.ex
  refine ⟨fun W => tCons (t' W) (u' W), fun W tk => pa_cons (h1 W tk) (k1 W tk) hs, fun b σ H ε T Tv W N Q Q' I q z x => ?_⟩
  refine h2 b σ H ε T Tv W N _ _ I q (fun d v ε1 H1 J hd q1 => ?_) x
  refine k2 b σ H1 ε1 (T ++ [d]) (Tv ++ [v]) W N _ _ J q1 (fun ds vs ε2 H2 J2 l hds q2 => ?_) (x.more I.lenT rfl)
  refine z (d :: ds) (v :: vs) ε2 H2 (by simpa only [List.append_assoc, List.cons_append, List.nil_append] using J2) (by simp [l]) ?_ q2
  exact Held.append (rs := [r]) (vs := [v]) hd hds

/-! ### pure operations -/
/-- r of values is op of trees: what is held stays, the answer comes on top -/
def OpN (K : PySem.W.Frag) (r : List V → Hp → VK → Prop) (op : List D → (D → Prop) → Prop) : Prop :=
  ∀ (b : Bs) (σ : L2.St) (H : Hp) (ε : Ep) (T : List D) (Tv : List V) (ds : List D) (vs : List V) (Q : D → Prop) (Q' : VK), T.length = Tv.length → ds.length = vs.length → SI K b σ H ε (T ++ ds) (Tv ++ vs) → op ds Q →
    (∀ d v H', Sub H H' → SI K b σ H' ε (T ++ (ds ++ [d])) (Tv ++ (vs ++ [v])) → Q d → Q' v H') → r vs H Q'
/-- an answer out of values alone -/
theorem OpN.pure {K : PySem.W.Frag} {r : List V → Hp → VK → Prop} {op : List D → (D → Prop) → Prop}
    (h : ∀ (G H : Hp) (ds : List D) (vs : List V) (F : List Addr) (Q : D → Prop) (Q' : VK), Sub G H → RpL K G H ds vs F → op ds Q → (∀ d v, (∀ G' H', Sub G G' → Rp K G' H' d v []) → Q d → Q' v H) → r vs H Q') : OpN K r op :=
  fun b σ H ε T Tv ds vs Q Q' hl hd I q k => by
    obtain ⟨G, F, Ft, J⟩ := I
    obtain ⟨F1, F2, rfl, r1, r2⟩ := J.temps.split2 hl
    refine h G H ds vs F2 Q Q' J.sub r2 q fun d v rd z => k d v H Sub.refl ⟨G, F, F1 ++ F2, ?_⟩ z
    have := J.push (d := d) (v := v) (rd G H Sub.refl)
    simpa only [List.append_assoc] using this
def vOp (op : List D → (D → Prop) → Prop) (rs : List (Option Nat)) (t : VTA) : VTE := fun N ε Q => t N ε fun ds ε1 => op ds fun d => Q d (restore rs ds ε1)
def r2N (r : R2) : List V → Hp → VK → Prop := fun vs H Q => ∃ v w, vs = [v, w] ∧ r v w H Q
def r1N (r : V → Hp → VK → Prop) : List V → Hp → VK → Prop := fun vs H Q => ∃ v, vs = [v] ∧ r v H Q
/-- behind an operation: the arguments go back or are let go -/
theorem OpN.run {K : PySem.W.Frag} {r : List V → Hp → VK → Prop} {op : List D → (D → Prop) → Prop} (h : OpN K r op) {b : Bs} {σ : L2.St} {H : Hp} {ε : Ep} {T : List D} {Tv : List V} {ds : List D} {vs : List V} {rs : List (Option Nat)} {Q : D → Ep → Prop} {Q' : VK}
    (hl : T.length = Tv.length) (hd : ds.length = vs.length) (I : SI K b σ H ε (T ++ ds) (Tv ++ vs)) (hh : Held σ rs vs) (q : op ds fun d => Q d (restore rs ds ε)) (k : ∀ d v ε' H', SI K b σ H' ε' (T ++ [d]) (Tv ++ [v]) → Q d ε' → Q' v H') : r vs H Q' :=
  h b σ H ε T Tv ds vs _ Q' hl hd I q fun d v H' _ J z => k d v _ H' (SI.restore hl hh hd J) z
def va2 (ta tb : VTE) : VTA := vaCons ta (vaCons tb vaNil)
def va1 (ta : VTE) : VTA := vaCons ta vaNil
theorem two_run {K : PySem.W.Frag} {r : R2} {op : List D → (D → Prop) → Prop} (h : OpN K (r2N r) op) {b : Bs} {σ : L2.St} {H : Hp} {ε : Ep} {T : List D} {Tv : List V} {x y : D} {v w : V} {ra rb : Option Nat} {Q : D → Ep → Prop} {Q' : VK}
    (hl : T.length = Tv.length) (I : SI K b σ H ε (T ++ [x, y]) (Tv ++ [v, w])) (h1 : Held σ [ra] [v]) (h2 : Held σ [rb] [w]) (q : op [x, y] fun d => Q d (restore [ra, rb] [x, y] ε)) (k : ∀ d v ε' H', SI K b σ H' ε' (T ++ [d]) (Tv ++ [v]) → Q d ε' → Q' v H') : r v w H Q' := by
  obtain ⟨v', w', e, z⟩ := h.run hl rfl I (Held.append (rs := [ra]) (vs := [v]) h1 h2) q k
  obtain ⟨rfl, e2⟩ := List.cons.inj e
  obtain ⟨rfl, _⟩ := List.cons.inj e2
  exact z
theorem one_run {K : PySem.W.Frag} {r : V → Hp → VK → Prop} {op : List D → (D → Prop) → Prop} (h : OpN K (r1N r) op) {b : Bs} {σ : L2.St} {H : Hp} {ε : Ep} {T : List D} {Tv : List V} {x : D} {v : V} {ra : Option Nat} {Q : D → Ep → Prop} {Q' : VK}
    (hl : T.length = Tv.length) (I : SI K b σ H ε (T ++ [x]) (Tv ++ [v])) (h1 : Held σ [ra] [v]) (q : op [x] fun d => Q d (restore [ra] [x] ε)) (k : ∀ d v ε' H', SI K b σ H' ε' (T ++ [d]) (Tv ++ [v]) → Q d ε' → Q' v H') : r v H Q' := by
  obtain ⟨v', e, z⟩ := h.run hl rfl I h1 q k
  obtain ⟨rfl, _⟩ := List.cons.inj e
  exact z
/-- two operands in a row -/
theorem two_args {e1 e2 : Expr} {ra rb : Option Nat} {ta tb : VTE} (ha : VG X e1 ra ta) (hb : VG X e2 rb tb) : ∃ ta' tb' : WX → TE, (∀ W, Takes X.toCx W → PE X.toCx e1 (ta' W)) ∧ (∀ W, Takes X.toCx W → PE X.toCx e2 (tb' W)) ∧
    ∀ (b : Bx X) σ H ε T Tv W N (Q : D → D → Ep → Prop) (Q' : V → V → Hp → Prop), SI X.K b.1 σ H ε T Tv → (ta N ε fun x ε1 => tb N ε1 fun y ε2 => Q x y ε2) →
      (∀ x y v w ε' H', SI X.K b.1 σ H' ε' (T ++ [x, y]) (Tv ++ [v, w]) → Held σ [ra] [v] → Held σ [rb] [w] → Q x y ε' → Q' v w H') → XL X.K b.1 T Tv W N → ta' W σ H fun v H1 => tb' W σ H1 fun w H2 => Q' v w H2 := by
  obtain ⟨ta', a1, a2⟩ := ha.ex
  obtain ⟨tb', b1, b2⟩ := hb.ex
  refine ⟨ta', tb', a1, b1, fun b σ H ε T Tv W N Q Q' I q k x => ?_⟩
  refine a2 b σ H ε T Tv W N _ _ I q (fun d v ε1 H1 J hd q1 => ?_) x
  refine b2 b σ H1 ε1 (T ++ [d]) (Tv ++ [v]) W N _ _ J q1 (fun d2 w ε2 H2 J2 h2 q2 => ?_) (x.more I.lenT rfl)
  exact k d d2 v w ε2 H2 (by simpa only [List.append_assoc, List.cons_append, List.nil_append] using J2) hd h2 q2
theorem ve_bin {e1 e2 : Expr} {o : Operator} {ra rb : Option Nat} {ta tb : VTE} {r : R2} {op : List D → (D → Prop) → Prop} {pos : Pos} (ho : OpR X.toCx (binaryOp o) r) (hp : OpN X.K (r2N r) op) (ha : VG X e1 ra ta) (hb : VG X e2 rb tb) :
    VE X (.BinOp e1 o e2 pos) (vOp op [ra, rb] (va2 ta tb)) := by
  obtain ⟨ta', tb', h1, h2, h3⟩ := two_args ha hb
  refine ⟨fun W => tOp r (ta' W) (tb' W), fun W tk => pe_op ho (h1 W tk) (h2 W tk), fun b σ H ε T Tv W N Q Q' I q k x => ?_⟩
  exact h3 b σ H ε T Tv W N _ _ I q (fun x y v w ε' H' J hv hw z => two_run hp I.lenT J hv hw z k) x
theorem ve_cmp {e1 e2 : Expr} {o : CmpOp} {ra rb : Option Nat} {ta tb : VTE} {r : R2} {op : List D → (D → Prop) → Prop} {pos : Pos} (ho : OpR X.toCx (compareOp o) r) (hp : OpN X.K (r2N r) op) (ha : VG X e1 ra ta) (hb : VG X e2 rb tb) (hm : behindInMarks o e2 = false) :
    VE X (.Compare e1 [o] [e2] pos) (vOp op [ra, rb] (va2 ta tb)) := by
  obtain ⟨ta', tb', h1, h2, h3⟩ := two_args ha hb
  refine ⟨fun W => tOp r (ta' W) (tb' W), fun W tk => pe_cmpR ho (h1 W tk) (h2 W tk) hm, fun b σ H ε T Tv W N Q Q' I q k x => ?_⟩
  exact h3 b σ H ε T Tv W N _ _ I q (fun x y v w ε' H' J hv hw z => two_run hp I.lenT J hv hw z k) x
theorem ve_un {e1 : Expr} {o : UnaryOp} {ra : Option Nat} {ta : VTE} {r : V → Hp → VK → Prop} {op : List D → (D → Prop) → Prop} {pos : Pos} (ho : UnR X.toCx (unaryOp o) r) (hp : OpN X.K (r1N r) op) (ha : VG X e1 ra ta) : VE X (.UnaryOp o e1 pos) (vOp op [ra] (va1 ta)) := by
  obtain ⟨ta', a1, a2⟩ := ha.ex
  refine ⟨fun W => tUn r (ta' W), fun W tk => pe_un ho (a1 W tk), fun b σ H ε T Tv W N Q Q' I q k x => ?_⟩
  exact a2 b σ H ε T Tv W N _ _ I q (fun d v ε1 H1 J hd z => one_run hp I.lenT J hd z k) x
/-- a built-in function called by its name -/
theorem ve_callB {x : Str} {id : String} {p pos : Pos} {e : Expr} {es : List Expr} {rs : List (Option Nat)} {t : VTA} {r : List V → Hp → VK → Prop} {op : List D → (D → Prop) → Prop} (hc : CallR X.toCx (.builtin id) r) (hp : OpN X.K r op) (hg : Gl X.toCx x) (hm : X.mg x = none) (hv : bootBuiltins x = some (.builtin id)) (ha : VA X (e :: es) rs t)
    (hn : x ≠ "__name__" := by decide) (hdb : (x == ("__debug__" : Str)) = false := by decide) (he : starEach (e :: es) X.env = (false, eval e X.env) :: starEach es X.env := by rfl) (hpl : (backTo pos (starEach es X.env)).any (·.1) = false := by rfl) :
    VE X (.Call (.Name x p) (e :: es) [] pos) (vOp op rs t) := by
  obtain ⟨t', a1, a2⟩ := ha.ex
  refine ⟨fun W => tCB r (t' W), fun W tk => pe_callB hc hg hm hv (a1 W tk) hn hdb he hpl, fun b σ H ε T Tv W N Q Q' I q k x => ?_⟩
  exact a2 b σ H ε T Tv W N _ _ I q (fun ds vs ε1 H1 J l hd z => hp.run I.lenT l J hd z k) x
theorem ve_callTy {x : Str} {ty : String} {p pos : Pos} {e : Expr} {es : List Expr} {rs : List (Option Nat)} {t : VTA} {r : List V → Hp → VK → Prop} {op : List D → (D → Prop) → Prop} (hc : CallR X.toCx (.type ty) r) (hp : OpN X.K r op) (hg : Gl X.toCx x) (hm : X.mg x = none) (hv : bootBuiltins x = some (.type ty)) (ha : VA X (e :: es) rs t)
    (hn : x ≠ "__name__" := by decide) (hdb : (x == ("__debug__" : Str)) = false := by decide) (he : starEach (e :: es) X.env = (false, eval e X.env) :: starEach es X.env := by rfl) (hpl : (backTo pos (starEach es X.env)).any (·.1) = false := by rfl) :
    VE X (.Call (.Name x p) (e :: es) [] pos) (vOp op rs t) := by
  obtain ⟨t', a1, a2⟩ := ha.ex
  refine ⟨fun W => tCB r (t' W), fun W tk => pe_callTy hc hg hm hv (a1 W tk) hn hdb he hpl, fun b σ H ε T Tv W N Q Q' I q k x => ?_⟩
  exact a2 b σ H ε T Tv W N _ _ I q (fun ds vs ε1 H1 J l hd z => hp.run I.lenT l J hd z k) x
end
end VL
/-! VL4: tests, displays, statements, while, for over a list that stands still. -/
namespace VL
open PySem PySem.Spec PyProof.Rows L2 VL
section
variable {K : PySem.W.Frag} {b : Bs} {σ : L2.St} {H H' : Hp} {ε : Ep} {T : List D} {Tv : List V}
theorem SI.last {d : D} {v : V} (I : SI K b σ H ε (T ++ [d]) (Tv ++ [v])) (hl : T.length = Tv.length) : ∃ G F, Sub G H ∧ Rp K G H d v F := by
  obtain ⟨G, F, Ft, J⟩ := I
  obtain ⟨F1, F2, rfl, r1, r2⟩ := J.temps.split2 hl
  exact ⟨G, F2, J.sub, RpL.one.mp r2⟩
theorem SI.pop {d : D} {v : V} (I : SI K b σ H ε (T ++ [d]) (Tv ++ [v])) (hl : T.length = Tv.length) : SI K b σ H ε T Tv := I.drop hl
end
section
variable {X : Cv}
/-! ### tests -/
def vB (t : VTE) : VTT := fun N ε Q => t N ε fun d ε1 => ∃ c, d = .bl c ∧ Q c ε1
theorem vt_val {e : Expr} {t : VTE} (h : VE X e t) (he : ∀ whole, isTrue e X.env whole = (do let v ← whole; standAt e.pos; holding [v] (truthy v)) := by intro _; rfl) : VT X e (vB t) := by
  obtain ⟨t', h1, h2⟩ := h.ex
  refine ⟨fun W => tB (t' W), fun W tk => pt_val (h1 W tk) he, fun b σ H ε T Tv W N Q Q' I q k x => ?_⟩
  refine h2 b σ H ε T Tv W N _ _ I q (fun d v ε1 H1 J z => ?_) x
  obtain ⟨c, rfl, z⟩ := z
  obtain ⟨G, F, _, rv, _⟩ := J.last I.lenT
  exact ⟨c, rv, k c ε1 H1 (J.pop I.lenT) z⟩
theorem vt_cmp {e1 e2 : Expr} {o : CmpOp} {ra rb : Option Nat} {ta tb : VTE} {r : R2} {op : List D → (D → Prop) → Prop} {pos : Pos} (ho : OpR X.toCx (compareOp o) r) (hp : OpN X.K (r2N r) op) (ha : VG X e1 ra ta) (hb : VG X e2 rb tb) (hm : behindInMarks o e2 = false) :
    VT X (.Compare e1 [o] [e2] pos) (vB (vOp op [ra, rb] (va2 ta tb))) := by
  obtain ⟨ta', tb', h1, h2, h3⟩ := two_args ha hb
  refine ⟨fun W => tTest (tOp r (ta' W) (tb' W)), fun W tk => pt_cmpR ho (h1 W tk) (h2 W tk) hm, fun b σ H ε T Tv W N Q Q' I q k x => ?_⟩
  refine h3 b σ H ε T Tv W N _ _ I q (fun x y v w ε' H' J hv hw z => two_run (Q := fun d ε1 => ∃ c, d = .bl c ∧ Q c ε1) hp I.lenT J hv hw z fun d u ε1 H1 J1 z1 => ?_) x
  obtain ⟨c, rfl, z1⟩ := z1
  obtain ⟨G, F, _, rv, _⟩ := J1.last I.lenT
  exact ⟨c, rv, k c ε1 H1 (J1.pop I.lenT) z1⟩
def vAnd (t u : VTT) : VTT := fun N ε Q => t N ε fun c ε1 => if c = true then u N ε1 Q else Q false ε1
def vOr (t u : VTT) : VTT := fun N ε Q => t N ε fun c ε1 => if c = true then Q true ε1 else u N ε1 Q
def vNot (t : VTT) : VTT := fun N ε Q => t N ε fun c ε1 => Q (!c) ε1
theorem vw_and1 {a : Expr} {t : VTT} {pos : Pos} (h : VT X a t) : VW X (.BoolOp .And [a] pos) t := let ⟨t', h1, h2⟩ := h.ex; ⟨t', fun W tk => pw_and1 (h1 W tk), h2⟩
theorem vw_or1 {a : Expr} {t : VTT} {pos : Pos} (h : VT X a t) : VW X (.BoolOp .Or [a] pos) t := let ⟨t', h1, h2⟩ := h.ex; ⟨t', fun W tk => pw_or1 (h1 W tk), h2⟩
theorem vw_and {a c : Expr} {rest : List Expr} {t u : VTT} {pos : Pos} (h : VT X a t) (g : VW X (.BoolOp .And (c :: rest) pos) u) : VW X (.BoolOp .And (a :: c :: rest) pos) (vAnd t u) := by
  obtain ⟨t', h1, h2⟩ := h.ex
  obtain ⟨u', g1, g2⟩ := g.ex
  refine ⟨fun W => tAnd (t' W) (u' W), fun W tk => pw_and (h1 W tk) (g1 W tk), fun b σ H ε T Tv W N Q Q' I q k x => ?_⟩
  refine h2 b σ H ε T Tv W N _ _ I q (fun c ε1 H1 J z => ?_) x
  cases c with
  | true => exact g2 b σ H1 ε1 T Tv W N _ _ J z k x
  | false => exact k false ε1 H1 J z
theorem vw_or {a c : Expr} {rest : List Expr} {t u : VTT} {pos : Pos} (h : VT X a t) (g : VW X (.BoolOp .Or (c :: rest) pos) u) : VW X (.BoolOp .Or (a :: c :: rest) pos) (vOr t u) := by
  obtain ⟨t', h1, h2⟩ := h.ex
  obtain ⟨u', g1, g2⟩ := g.ex
  refine ⟨fun W => tOr (t' W) (u' W), fun W tk => pw_or (h1 W tk) (g1 W tk), fun b σ H ε T Tv W N Q Q' I q k x => ?_⟩
  refine h2 b σ H ε T Tv W N _ _ I q (fun c ε1 H1 J z => ?_) x
  cases c with
  | true => exact k true ε1 H1 J z
  | false => exact g2 b σ H1 ε1 T Tv W N _ _ J z k x
theorem vt_w {e : Expr} {t : VTT} (h : VW X e t) : VT X e t := let ⟨t', h1, h2⟩ := h.ex; ⟨t', fun W tk => (h1 W tk).pt, h2⟩
theorem vt_not {a : Expr} {t : VTT} {pos : Pos} (h : VT X a t) : VT X (.UnaryOp .Not a pos) (vNot t) := by
  obtain ⟨t', h1, h2⟩ := h.ex
  refine ⟨fun W => tNot (t' W), fun W tk => pt_not (h1 W tk), fun b σ H ε T Tv W N Q Q' I q k x => ?_⟩
  exact h2 b σ H ε T Tv W N _ _ I q (fun c ε1 H1 J z => k (!c) ε1 H1 J z) x
/-! ### and, or, not, if as values (of bools) -/
def vAndV (t u : VTE) : VTE := fun N ε Q => t N ε fun d ε1 => ∃ c, d = .bl c ∧ if c = true then u N ε1 Q else Q (.bl false) ε1
def vOrV (t u : VTE) : VTE := fun N ε Q => t N ε fun d ε1 => ∃ c, d = .bl c ∧ if c = true then Q (.bl true) ε1 else u N ε1 Q
def vNotV (t : VTE) : VTE := fun N ε Q => t N ε fun d ε1 => ∃ c, d = .bl c ∧ Q (.bl (!c)) ε1
def vIf (c : VTT) (t u : VTE) : VTE := fun N ε Q => c N ε fun c ε1 => if c = true then t N ε1 Q else u N ε1 Q
theorem ve_one {a : Expr} {o : BoolOp} {t : VTE} {pos : Pos} (h : VE X a t) : VE X (.BoolOp o [a] pos) t := let ⟨t', h1, h2⟩ := h.ex; ⟨t', fun W tk => pe_one (h1 W tk), h2⟩
theorem ve_and {a c : Expr} {rest : List Expr} {t u : VTE} {pos : Pos} (h : VE X a t) (g : VE X (.BoolOp .And (c :: rest) pos) u) : VE X (.BoolOp .And (a :: c :: rest) pos) (vAndV t u) := by
  obtain ⟨t', h1, h2⟩ := h.ex
  obtain ⟨u', g1, g2⟩ := g.ex
  refine ⟨fun W => tAndV (t' W) (u' W), fun W tk => pe_and (h1 W tk) (g1 W tk), fun b σ H ε T Tv W N Q Q' I q k x => ?_⟩
  refine h2 b σ H ε T Tv W N _ _ I q (fun d v ε1 H1 J z => ?_) x
  obtain ⟨c, rfl, z⟩ := z
  obtain ⟨G, F, _, rv, _⟩ := J.last I.lenT
  refine ⟨c, rv, ?_⟩
  cases c with
  | true => exact g2 b σ H1 ε1 T Tv W N _ _ (J.pop I.lenT) z k x
  | false => exact k (.bl false) _ ε1 H1 ((J.pop I.lenT).push fun _ => ⟨rfl, rfl⟩) z
theorem ve_or {a c : Expr} {rest : List Expr} {t u : VTE} {pos : Pos} (h : VE X a t) (g : VE X (.BoolOp .Or (c :: rest) pos) u) : VE X (.BoolOp .Or (a :: c :: rest) pos) (vOrV t u) := by
  obtain ⟨t', h1, h2⟩ := h.ex
  obtain ⟨u', g1, g2⟩ := g.ex
  refine ⟨fun W => tOrV (t' W) (u' W), fun W tk => pe_or (h1 W tk) (g1 W tk), fun b σ H ε T Tv W N Q Q' I q k x => ?_⟩
  refine h2 b σ H ε T Tv W N _ _ I q (fun d v ε1 H1 J z => ?_) x
  obtain ⟨c, rfl, z⟩ := z
  obtain ⟨G, F, _, rv, _⟩ := J.last I.lenT
  refine ⟨c, rv, ?_⟩
  cases c with
  | true => exact k (.bl true) _ ε1 H1 ((J.pop I.lenT).push fun _ => ⟨rfl, rfl⟩) z
  | false => exact g2 b σ H1 ε1 T Tv W N _ _ (J.pop I.lenT) z k x
theorem ve_not {a : Expr} {t : VTE} {pos : Pos} (h : VE X a t) : VE X (.UnaryOp .Not a pos) (vNotV t) := by
  obtain ⟨t', h1, h2⟩ := h.ex
  refine ⟨fun W => tNotV (t' W), fun W tk => pe_not (h1 W tk), fun b σ H ε T Tv W N Q Q' I q k x => ?_⟩
  refine h2 b σ H ε T Tv W N _ _ I q (fun d v ε1 H1 J z => ?_) x
  obtain ⟨c, rfl, z⟩ := z
  obtain ⟨G, F, _, rv, _⟩ := J.last I.lenT
  exact ⟨c, rv, k (.bl (!c)) _ ε1 H1 ((J.pop I.lenT).push fun _ => ⟨rfl, rfl⟩) z⟩
theorem ve_if {c a e : Expr} {tc : VTT} {t u : VTE} {pos : Pos} (hc : VT X c tc) (h : VE X a t) (g : VE X e u) : VE X (.IfExp c a e pos) (vIf tc t u) := by
  obtain ⟨tc', c1, c2⟩ := hc.ex
  obtain ⟨t', h1, h2⟩ := h.ex
  obtain ⟨u', g1, g2⟩ := g.ex
  refine ⟨fun W => tIf (tc' W) (t' W) (u' W), fun W tk => pe_ifExp (c1 W tk) (h1 W tk) (g1 W tk), fun b σ H ε T Tv W N Q Q' I q k x => ?_⟩
  refine c2 b σ H ε T Tv W N _ _ I q (fun c ε1 H1 J z => ?_) x
  cases c with
  | true => exact h2 b σ H1 ε1 T Tv W N _ _ J z k x
  | false => exact g2 b σ H1 ε1 T Tv W N _ _ J z k x
/-! ### displays -/
def vTup (t : VTA) : VTE := fun N ε Q => t N ε fun ds ε1 => ds.length ≤ 1000 ∧ Q (.tup ds) ε1
def vLst (t : VTA) : VTE := fun N ε Q => t N ε fun ds ε1 => ds.length ≤ 1000 ∧ Q (.lst true ds) ε1
def NoRef (rs : List (Option Nat)) : Prop := ∀ r ∈ rs, r = none
theorem k1000 {n : Nat} (h : n ≤ 1000) : n ≤ sizeLine := Nat.le_trans h (by decide)
theorem ve_tup {es : List Expr} {rs : List (Option Nat)} {t : VTA} {x1 : Nat} {pos : Pos} (h : VA X es rs t) : VE X (.Tuple es x1 pos) (vTup t) := by
  obtain ⟨t', h1, h2⟩ := h.ex
  refine ⟨fun W => tTup (t' W), fun W tk => pe_tup (h1 W tk), fun b σ H ε T Tv W N Q Q' I q k x => ?_⟩
  refine h2 b σ H ε T Tv W N _ _ I q (fun ds vs ε1 H1 J l _ z => ?_) x
  obtain ⟨z1, z⟩ := z
  exact ⟨k1000 (by rw [← l]; exact z1), fun p hp => k _ _ ε1 _ (J.tup I.lenT hp) z⟩
theorem ve_lst {es : List Expr} {rs : List (Option Nat)} {t : VTA} {pos : Pos} (h : VA X es rs t) : VE X (.List es pos) (vLst t) := by
  obtain ⟨t', h1, h2⟩ := h.ex
  refine ⟨fun W => tLst (t' W), fun W tk => pe_lst (h1 W tk), fun b σ H ε T Tv W N Q Q' I q k x => ?_⟩
  refine h2 b σ H ε T Tv W N _ _ I q (fun ds vs ε1 H1 J l _ z => ?_) x
  obtain ⟨z1, z⟩ := z
  exact ⟨k1000 (by rw [← l]; exact z1), fun p hp => k (.lst true ds) _ ε1 _ (J.laid I.lenT hp (.lst vs) fun G H' F e r => ⟨p, vs, F, rfl, e, rfl, r⟩) z⟩
/-- an empty dict: keys ints and texts | keys tuples of these -/
theorem ve_dK {pos : Pos} : VE X (.Dict [] [] pos) (vC (.dK true [] [])) := by
  refine ⟨fun _ => tDNewK, fun _ _ => pe_dnewK, fun b σ H ε T Tv W N Q Q' I q k _ => fun p hp => ?_⟩
  refine k (.dK true [] []) _ ε _ ((SI.laid (ds := []) (vs := []) (by simpa using I) I.lenT hp (.dK []) fun G H' F e r => ?_)) q
  obtain ⟨_, rfl⟩ := r
  exact ⟨p, [], [], rfl, e, rfl, rfl, List.nodup_nil, rfl, rfl⟩
theorem ve_dT {pos : Pos} : VE X (.Dict [] [] pos) (vC (.dT true [] [])) := by
  refine ⟨fun _ => tDNewT, fun _ _ => pe_dnewT, fun b σ H ε T Tv W N Q Q' I q k _ => fun p hp => ?_⟩
  refine k (.dT true [] []) _ ε _ ((SI.laid (ds := []) (vs := []) (by simpa using I) I.lenT hp (.dT []) fun G H' F e r => ?_)) q
  obtain ⟨_, rfl⟩ := r
  exact ⟨p, [], [], rfl, e, rfl, rfl, List.nodup_nil, rfl, rfl⟩
/-- what an expression gives is let stand still -/
def vStill (t : VTE) : VTE := fun N ε Q => t N ε fun d ε1 => Q (frz d) ε1
theorem ve_still {e : Expr} {t : VTE} (h : VE X e t) : VE X e (vStill t) := by
  obtain ⟨t', h1, h2⟩ := h.ex
  refine ⟨t', h1, fun b σ H ε T Tv W N Q Q' I q k x => ?_⟩
  exact h2 b σ H ε T Tv W N _ _ I q (fun d v ε1 H1 J z => k (frz d) v ε1 H1 (J.freeze I.lenT) z) x

/-! ### statements -/
/-- κ: the slots of kept parameters, which nobody stores into: told by the number of them at the begin that are not stored -/
def vSkip : VTS := fun N ε => N.nx ε
def vSeq (t u : VTS) : VTS := fun N ε => t { N with nx := u N } ε
theorem vss_nil : VSs X [] vSkip := ⟨fun _ => tNext, fun _ _ => pss_nil, fun b σ H ε T Tv W N E I q l _ => l.nx σ H ε I q⟩
theorem vss_one {st : Stmt} {t : VTS} (h : VS X st t) : VSs X [st] t := let ⟨t', h1, h2⟩ := h.ex; ⟨t', fun W tk => pss_one (h1 W tk), h2⟩
theorem vss_cons {st : Stmt} {rest : List Stmt} {t u : VTS} (h : VS X st t) (g : VSs X rest u) : VSs X (st :: rest) (vSeq t u) := by
  obtain ⟨t', h1, h2⟩ := h.ex
  obtain ⟨u', g1, g2⟩ := g.ex
  refine ⟨fun W => tSeq (t' W) (u' W), fun W tk => pss_cons (h1 W tk) (g1 W tk), fun b σ H ε T Tv W N E I q l x => ?_⟩
  exact h2 b σ H ε T Tv W { N with nx := u N } { E with nx := u' W E } I q ⟨fun σ1 H1 ε1 J z => g2 b σ1 H1 ε1 T Tv W N E J z l x, l.rt, l.bk, l.ct⟩ x
def vBrk : VTS := fun N ε => N.bk ε
def vCnt : VTS := fun N ε => N.ct ε
theorem vs_pass {pos : Pos} : VS X (.Pass pos) vSkip := ⟨fun _ => tNext, fun _ _ => ps_pass, fun b σ H ε T Tv W N E I q l _ => l.nx σ H ε I q⟩
theorem vs_brk {pos : Pos} : VS X (.Break pos) vBrk := ⟨fun _ => tBreak, fun _ _ => ps_break, fun b σ H ε T Tv W N E I q l _ => l.bk σ H ε I q⟩
theorem vs_cnt {pos : Pos} : VS X (.Continue pos) vCnt := ⟨fun _ => tCont, fun _ _ => ps_continue, fun b σ H ε T Tv W N E I q l _ => l.ct σ H ε I q⟩
def vDrop (t : VTE) : VTS := fun N ε => t N.rx ε fun _ ε1 => N.nx ε1
theorem vs_expr {e : Expr} {t : VTE} {pos : Pos} (h : VE X e t) (hs : swapsWith e none pos.line X.env = pure false := by rfl) : VS X (.Expr e pos) (vDrop t) := by
  obtain ⟨t', h1, h2⟩ := h.ex
  refine ⟨fun W => tDrop (t' W), fun W tk => ps_expr (h1 W tk) hs, fun b σ H ε T Tv W N E I q l x => ?_⟩
  exact h2 b σ H ε T Tv W N.rx _ _ I q (fun d v ε1 H1 J z => l.nx σ H1 ε1 (J.pop I.lenT) z) x
def vRet (t : VTE) : VTS := fun N ε => t N.rx ε N.rt
theorem vs_ret {e : Expr} {t : VTE} {pos : Pos} (h : VE X e t) : VS X (.Return (some e) pos) (vRet t) := by
  obtain ⟨t', h1, h2⟩ := h.ex
  refine ⟨fun W => tRet (t' W), fun W tk => ps_ret (h1 W tk), fun b σ H ε T Tv W N E I q l x => ?_⟩
  exact h2 b σ H ε T Tv W N.rx _ _ I q (fun d v ε1 H1 J z => l.rt σ H1 ε1 d v J z) x
def vRetN : VTS := fun N ε => N.rt .non ε
theorem vs_retN {pos : Pos} : VS X (.Return none pos) vRetN := ⟨fun _ => tRetN, fun _ _ => ps_retN, fun b σ H ε T Tv W N E I q l _ => l.rt σ H ε .non .non (I.push fun _ => ⟨rfl, rfl⟩) q⟩
def vIfS (c : VTT) (t u : VTS) : VTS := fun N ε => c N.rx ε fun c ε1 => if c = true then t N ε1 else u N ε1
theorem vs_if {c : Expr} {a e : List Stmt} {tc : VTT} {t u : VTS} {pos : Pos} (hc : VT X c tc) (h : VSs X a t) (g : VSs X e u) : VS X (.If c a e pos) (vIfS tc t u) := by
  obtain ⟨tc', c1, c2⟩ := hc.ex
  obtain ⟨t', h1, h2⟩ := h.ex
  obtain ⟨u', g1, g2⟩ := g.ex
  refine ⟨fun W => tIfS (tc' W) (t' W) (u' W), fun W tk => ps_if (c1 W tk) (h1 W tk) (g1 W tk), fun b σ H ε T Tv W N E I q l x => ?_⟩
  refine c2 b σ H ε T Tv W N.rx _ _ I q (fun c ε1 H1 J z => ?_) x
  cases c with
  | true => exact h2 b σ H1 ε1 T Tv W N E J z l x
  | false => exact g2 b σ H1 ε1 T Tv W N E J z l x
/-- x = e -/
def vAsg (i : Nat) (t : VTE) : VTS := fun N ε => t N.rx ε fun d ε1 => i < ε1.length ∧ N.nx (ε1.set i (some d))
theorem Bx.free (b : Bx X) {i : Nat} (h : X.κ[i]? ≠ some true) : ∀ u, b.1.kv[i]? ≠ some (some u) := fun u e => h (b.2 i u e)
theorem vs_asg {i : Nat} {x : Str} {e : Expr} {t : VTE} {pos pos' : Pos} (hN : X.N.Nodup) (hi : X.N[i]? = some x) (hx : Loc X.env.scope x) (hk : X.κ[i]? ≠ some true) (h : VE X e t) (hs : swapsWith e (some (.Name x pos')) pos.line X.env = pure false := by rfl)
    (hf : X.fn x = true ∨ X.env.scope.names.lookup x = some .local := by first | exact .inl rfl | exact .inr rfl | assumption) : VS X (.Assign [.Name x pos'] e pos) (vAsg i t) := by
  obtain ⟨t', h1, h2⟩ := h.ex
  refine ⟨fun W => tAsg (t' W) (gName i), fun W tk => ps_set hN hi hx (h1 W tk) hs hf, fun b σ H ε T Tv W N E I q l x => ?_⟩
  exact h2 b σ H ε T Tv W N.rx _ _ I q (fun d v ε1 H1 J z => l.nx _ H1 _ (J.store I.lenT z.1 (b.free hk)) z.2) x
/-! ### targets -/
/-- what a target does with what it is given, which is held on top -/
abbrev VTG := D → Ep → (Ep → Prop) → Prop
structure VTa (X : Cv) (tg : Expr) (t : VTG) : Prop where
  ex : ∃ g : TG, PG X.toCx tg g ∧ ∀ (b : Bx X) σ H ε T Tv d v Q Q', SI X.K b.1 σ H ε (T ++ [d]) (Tv ++ [v]) → T.length = Tv.length → t d ε Q →
    (∀ ε' σ' H', SI X.K b.1 σ' H' ε' T Tv → Q ε' → Q' σ' H') → g v σ H Q'
def vName (i : Nat) : VTG := fun d ε Q => i < ε.length ∧ Q (ε.set i (some d))
theorem vt_name {i : Nat} {x : Str} {pos : Pos} (hN : X.N.Nodup) (hi : X.N[i]? = some x) (hx : Loc X.env.scope x) (hk : X.κ[i]? ≠ some true)
    (hf : X.fn x = true ∨ X.env.scope.names.lookup x = some .local := by first | exact .inl rfl | exact .inr rfl | assumption) : VTa X (.Name x pos) (vName i) :=
  ⟨gName i, pg_name hN hi hx hf, fun b σ H ε T Tv d v Q Q' I l q k => k _ _ _ (I.store l q.1 (b.free hk)) q.2⟩
/-- several targets, the things to give held in order -/
abbrev VTGs := List D → Ep → (Ep → Prop) → Prop
structure VTas (X : Cv) (ts : List Expr) (t : VTGs) : Prop where
  ex : ∃ g : TGs, PGs X.toCx ts g ∧ ∀ (b : Bx X) σ H ε T Tv ds vs Q Q', SI X.K b.1 σ H ε (T ++ ds) (Tv ++ vs) → T.length = Tv.length → ds.length = vs.length → (∀ d ∈ ds, isFz d = true) → t ds ε Q →
    (∀ ε' σ' H', SI X.K b.1 σ' H' ε' T Tv → Q ε' → Q' σ' H') → g vs σ H Q'
end
end VL
/-! VL5: targets of several names, for, while. -/
namespace VL
open PySem PySem.Spec PyProof.Rows L2 VL
section
variable {K : PySem.W.Frag} {b : Bs} {σ : L2.St} {H H' : Hp} {ε : Ep} {T : List D} {Tv : List V}
theorem heldNone {σ : L2.St} : ∀ {R : List D} {Rv : List V}, R.length = Rv.length → Held σ (R.map fun _ => none) Rv
  | [], [], _ => trivial
  | _ :: R, _ :: Rv, h => heldNone (R := R) (Nat.succ.inj h)
  | [], _ :: _, h => by cases h
  | _ :: _, [], h => by cases h
theorem restoreNone : ∀ {R : List D} {ε : Ep}, restore (R.map fun _ => none) R ε = ε
  | [], _ => rfl
  | _ :: R, _ => restoreNone (R := R)
theorem SI.midDrops {R S : List D} {Rv Sv : List V} (I : SI K b σ H ε (T ++ (R ++ S)) (Tv ++ (Rv ++ Sv))) (hl : T.length = Tv.length) (hr : R.length = Rv.length) : SI K b σ H ε (T ++ S) (Tv ++ Sv) := by
  have := SI.restore hl (heldNone hr) hr I
  rw [restoreNone] at this
  exact this
/-- a held thing amid others goes to a slot -/
theorem SI.midStore {d : D} {v : V} {R : List D} {Rv : List V} (I : SI K b σ H ε (T ++ d :: R) (Tv ++ v :: Rv)) (hl : T.length = Tv.length) {i : Nat} (hi : i < ε.length) (hk : ∀ u, b.kv[i]? ≠ some (some u)) : SI K b (σ.set i (some v)) H (ε.set i (some d)) (T ++ R) (Tv ++ Rv) := by
  obtain ⟨G, F, Ft, J⟩ := I
  obtain ⟨F1, F2, rfl, r1, r2⟩ := J.temps.split2 hl
  obtain ⟨v', vs', A, B, e, rfl, rd, rs⟩ := r2
  obtain ⟨rfl, rfl⟩ := List.cons.inj e
  obtain ⟨ov, C, E, L, hs', rfl, ro, back⟩ := J.slots.focus (i := i) (List.getElem?_eq_getElem hi)
  have s2 := back G H (some d) (some v) A Sub.refl (fun _ _ => rfl) ⟨v, rfl, rd⟩
  have sb : ∀ a, a ∈ C ++ A ++ L ++ (F1 ++ B) → a ∈ C ++ E ++ L ++ (F1 ++ (A ++ B)) := fun a z => by
    simp only [List.mem_append] at z ⊢
    rcases z with ((z | z) | z) | z | z
    · exact .inl (.inl (.inl z))
    · exact .inr (.inr (.inl z))
    · exact .inl (.inr z)
    · exact .inr (.inl z)
    · exact .inr (.inr (.inr z))
  have nd : (C ++ A ++ L ++ (F1 ++ B)).Nodup := by
    have h1 : (C ++ E ++ L ++ (F1 ++ (A ++ B))).Perm (E ++ (C ++ A ++ L ++ (F1 ++ B))) := by
      apply List.perm_iff_count.mpr
      intro a
      simp only [List.count_append]
      omega
    exact (List.nodup_append.mp (h1.nodup_iff.mp J.nd)).2.1
  refine ⟨G, _, F1 ++ B, J.s0, J.sub, s2, r1.append rs, nd, fun a z => J.fr a (sb a z), fun a z => J.own a (sb a z), J.gn, J.keep, fun j u e => ?_⟩
  have hj : i ≠ j := fun z => by
    subst z
    exact hk u e
  rw [List.getElem?_set_ne hj]
  exact J.kept j u e
/-- a held tuple is opened -/
theorem SI.openT {ds : List D} {v : V} (I : SI K b σ H ε (T ++ [.tup ds]) (Tv ++ [v])) (hl : T.length = Tv.length) : ∃ a vs, v = .ref a ∧ SqT K H a vs ∧ ds.length = vs.length ∧ SI K b σ H ε (T ++ ds) (Tv ++ vs) := by
  obtain ⟨G, F, Ft, J⟩ := I
  obtain ⟨F1, F2, rfl, r1, r2⟩ := J.temps.split2 hl
  obtain ⟨a, vs, rfl, s, r⟩ := RpL.one.mp r2
  exact ⟨a, vs, rfl, SqT.of (J.sub _ _ s), r.len, G, F, F1 ++ F2, J.s0, J.sub, J.slots, r1.append r, J.nd, J.fr, J.own, J.gn, J.keep, J.kept⟩
theorem SI.openL {m : Bool} {ds : List D} {v : V} (I : SI K b σ H ε (T ++ [.lst m ds]) (Tv ++ [v])) (hl : T.length = Tv.length) : ∃ a vs, v = .ref a ∧ SqL K H a vs ∧ ds.length = vs.length ∧ SI K b σ H ε (T ++ ds) (Tv ++ vs) := by
  obtain ⟨G, F, Ft, J⟩ := I
  obtain ⟨F1, F2, rfl, r1, r2⟩ := J.temps.split2 hl
  have r2 := RpL.one.mp r2
  cases m with
  | false =>
    obtain ⟨a, vs, rfl, s, rfl, r⟩ := r2
    exact ⟨a, vs, rfl, J.sub.sqL s, r.len, G, F, F1 ++ [], J.s0, J.sub, J.slots, r1.append r, J.nd, J.fr, J.own, J.gn, J.keep, J.kept⟩
  | true =>
    obtain ⟨a, vs, F', rfl, s, rfl, r⟩ := r2
    have sb : ∀ c, c ∈ F ++ (F1 ++ F') → c ∈ F ++ (F1 ++ a :: F') := fun c z => by
      simp only [List.mem_append, List.mem_cons] at z ⊢
      rcases z with z | z | z
      · exact .inl z
      · exact .inr (.inl z)
      · exact .inr (.inr (.inr z))
    have nd : (F ++ (F1 ++ F')).Nodup := by
      have h1 : (F ++ (F1 ++ a :: F')).Perm ([a] ++ (F ++ (F1 ++ F'))) := by
        apply List.perm_iff_count.mpr
        intro c
        simp only [List.count_append, List.count_cons]
        simp
        omega
      exact (List.nodup_append.mp (h1.nodup_iff.mp J.nd)).2.1
    exact ⟨a, vs, rfl, SqL.of s, r.len, G, F, F1 ++ F', J.s0, J.sub, J.slots, r1.append r, nd, fun c z => J.fr c (sb c z), fun c z => J.own c (sb c z), J.gn, J.keep, J.kept⟩
end
section
variable {X : Cv}
/-! ### several names -/
def setAll : List Nat → List D → Ep → Ep
  | i :: is, d :: ds, ε => setAll is ds (ε.set i (some d))
  | _, _, ε => ε
structure VNs (X : Cv) (ts : List Expr) (is : List Nat) : Prop where
  ex : ∃ g : TGs, PGs X.toCx ts g ∧ ∀ (b : Bx X) σ H ε T Tv ds vs (Q : Ep → Prop) (Q' : L2.St → Hp → Prop), SI X.K b.1 σ H ε (T ++ ds) (Tv ++ vs) → T.length = Tv.length → ds.length = vs.length → is.length = ds.length → (∀ i ∈ is, i < ε.length) → Q (setAll is ds ε) →
    (∀ ε' σ' H', SI X.K b.1 σ' H' ε' T Tv → Q ε' → Q' σ' H') → g vs σ H Q'
theorem vns_nil : VNs X [] [] := ⟨gNil, pgs_nil, fun b σ H ε T Tv ds vs Q Q' I l hd hi _ q k => by
  cases ds with
  | cons _ _ => cases hi
  | nil =>
    cases vs with
    | cons _ _ => cases hd
    | nil => exact ⟨rfl, k ε σ H (by simpa using I) q⟩⟩
theorem vns_cons {x : Str} {pos : Pos} {es : List Expr} {i : Nat} {is : List Nat} (hN : X.N.Nodup) (hi : X.N[i]? = some x) (hx : Loc X.env.scope x) (hk : X.κ[i]? ≠ some true) (h : VNs X es is)
    (hs : (assignEach (.Name x pos :: es) X.env).map (·.2) = assign (.Name x pos) X.env :: (assignEach es X.env).map (·.2) := by rfl)
    (hf : X.fn x = true ∨ X.env.scope.names.lookup x = some .local := by first | exact .inl rfl | exact .inr rfl | assumption) : VNs X (.Name x pos :: es) (i :: is) := by
  obtain ⟨g, h1, h2⟩ := h.ex
  refine ⟨gCons (gName i) g, pgs_cons (pg_name hN hi hx hf) h1 hs, fun b σ H ε T Tv ds vs Q Q' I l hd hn hb q k => ?_⟩
  cases ds with
  | nil => cases hn
  | cons d ds =>
    cases vs with
    | nil => cases hd
    | cons v vs =>
      refine ⟨v, vs, rfl, ?_⟩
      exact h2 b _ H _ T Tv ds vs Q Q' (SI.midStore I l (hb i List.mem_cons_self) (b.free hk)) l (Nat.succ.inj hd) (Nat.succ.inj hn) (fun j z => by rw [List.length_set]; exact hb j (List.mem_cons_of_mem _ z)) q k
/-- the things that a tuple, a list holds -/
def items : D → Option (List D)
  | .tup ds => some ds
  | .lst _ ds => some ds
  | _ => none
def vNames (is : List Nat) : VTG := fun d ε Q => ∃ ds, items d = some ds ∧ is.length = ds.length ∧ (∀ i ∈ is, i < ε.length) ∧ Q (setAll is ds ε)
theorem vt_names {es : List Expr} {is : List Nat} {k : Nat} {pos : Pos} {n : Nat} (hc : X.calm = true) (h : VNs X es is)
    (hn : (assignEach es X.env).length = is.length := by rfl) (hst : (assignEach es X.env).findIdx? (·.1) = none := by rfl) : VTa X (.Tuple es k pos) (vNames is) := by
  obtain ⟨g, h1, h2⟩ := h.ex
  refine ⟨fun v σ H Q => gTup X.K is.length g v σ H Q ∨ gLst X.K is.length g v σ H Q, ⟨fun pins s σ H v u Q I r w => ?_⟩, fun b σ H ε T Tv d v Q Q' I l q z => ?_⟩
  · rcases w with w | w
    · exact (pg_tup hc h1 hn hst).run pins s σ H v u Q I r w
    · exact (pg_lst hc h1 hn hst).run pins s σ H v u Q I r w
  · obtain ⟨ds, hd, hl, hb, q⟩ := q
    cases d with
    | tup es =>
      cases hd
      obtain ⟨a, vs, rfl, s, l2, J⟩ := I.openT l
      exact .inl ⟨a, vs, rfl, s, by rw [← l2, hl], h2 b σ H ε T Tv ds vs Q Q' J l l2 hl hb q z⟩
    | lst m es =>
      cases hd
      obtain ⟨a, vs, rfl, s, l2, J⟩ := I.openL l
      exact .inr ⟨a, vs, rfl, s, by rw [← l2, hl], h2 b σ H ε T Tv ds vs Q Q' J l l2 hl hb q z⟩
    | _ => cases hd
def vAsgT (t : VTE) (g : VTG) : VTS := fun N ε => t N.rx ε fun d ε1 => g d ε1 N.nx
theorem vs_asgT {tg e : Expr} {t : VTE} {g : VTG} {pos : Pos} (h : VE X e t) (hg : VTa X tg g) (hs : swapsWithSole [tg] e pos.line X.env = pure false := by rfl) (hw : swappedStores [tg] e X.env = pure none := by rfl)
    (h1 : (assignEach [tg] X.env).map (·.2) = [assign tg X.env] := by rfl) : VS X (.Assign [tg] e pos) (vAsgT t g) := by
  obtain ⟨t', a1, a2⟩ := h.ex
  obtain ⟨g', g1, g2⟩ := hg.ex
  refine ⟨fun W => tAsg (t' W) g', fun W tk => ps_asg (a1 W tk) g1 hs hw h1, fun b σ H ε T Tv W N E I q l x => ?_⟩
  exact a2 b σ H ε T Tv W N.rx _ _ I q (fun d v ε1 H1 J z => g2 b σ H1 ε1 T Tv d v N.nx E.nx J I.lenT z fun ε' σ' H' J' z' => l.nx σ' H' ε' J' z') x

/-! ### for -/
/-- the walk J gives ds one by one while R is held -/
def Wk (K : PySem.W.Frag) (J : It) (ds R : List D) (Rv : List V) : Prop := ∀ (b : Bs) σ H ε T Tv i, T.length = Tv.length → SI K b σ H ε (T ++ R) (Tv ++ Rv) →
  (∀ d, ds[i]? = some d → J.go i H ∧ ∀ x H', J.yld i H x H' → SI K b σ H' ε (T ++ (R ++ [d])) (Tv ++ (Rv ++ [x]))) ∧ (ds.length ≤ i → J.stop i H)
structure VI (X : Cv) (tg iter : Expr) (t : VTA) : Prop where
  ex : ∃ t' : WX → TI, (∀ W, Takes X.toCx W → PI X.toCx tg iter (t' W)) ∧ ∀ (b : Bx X) σ H ε T Tv W N Q Q', SI X.K b.1 σ H ε T Tv → t N ε Q →
    (∀ ds R Rv J ε' H', SI X.K b.1 σ H' ε' (T ++ R) (Tv ++ Rv) → R.length = Rv.length → Wk X.K J ds R Rv → Q ds ε' → Q' J H') → XL X.K b.1 T Tv W N → t' W σ H Q'
def vForL (g : VTG) (body : VTS) : List D → VTS
  | [], N, ε => N.nx ε
  | d :: ds, N, ε => g d ε fun ε1 => body { N with nx := fun ε' => vForL g body ds N ε', ct := fun ε' => vForL g body ds N ε', bk := N.nx } ε1
def vFor (wi : VTA) (g : VTG) (body : VTS) : VTS := fun N ε => wi N.rx ε fun ds ε1 => vForL g body ds N ε1
theorem vs_for {tg iter : Expr} {body : List Stmt} {wi : VTA} {g : VTG} {t : VTS} {pos : Pos} (hp : PassesOwn (model X.prog X.w) X.A X.env X.xe) (hc : X.calm = true) (hi : VI X tg iter wi) (hg : VTa X tg g) (hb : VSs X body t)
    (hs : ∀ x, foldedSetIterable iter X.env x = pure x := by intro _; rfl) : VS X (.For tg iter body [] pos) (vFor wi g t) := by
  obtain ⟨wi', w1, w2⟩ := hi.ex
  obtain ⟨g', g1, g2⟩ := hg.ex
  obtain ⟨t', t1, t2⟩ := hb.ex
  refine ⟨fun W => tFor (wi' W) g' (t' W), fun W tk => ps_for hp hc (w1 W tk) g1 (t1 W tk) hs, fun b σ H ε T Tv W N E I q l x => ?_⟩
  refine w2 b σ H ε T Tv W N.rx _ _ I q (fun ds R Rv J ε1 H1 I1 hr wk z => ?_) x
  have hl := I.lenT
  refine ⟨fun i m σ H => m = ds.length - i ∧ i ≤ ds.length ∧ ∃ ε, SI X.K b.1 σ H ε (T ++ R) (Tv ++ Rv) ∧ vForL g t (ds.drop i) N ε, ⟨ds.length, rfl, Nat.zero_le _, ε1, I1, z⟩, ?_⟩
  rintro i m σ2 H2 ⟨rfl, hi, ε2, I2, z2⟩
  obtain ⟨go, stop⟩ := wk b.1 σ2 H2 ε2 T Tv i hl I2
  by_cases hlt : i < ds.length
  · right
    rw [List.drop_eq_getElem_cons hlt] at z2
    obtain ⟨g0, gy⟩ := go ds[i] (List.getElem?_eq_getElem hlt)
    refine ⟨g0, fun σ' H' => ∃ ε, SI X.K b.1 σ' H' ε (T ++ R) (Tv ++ Rv) ∧ vForL g t (ds.drop (i + 1)) N ε, fun σ' H' y => ⟨ds.length - (i + 1), by omega, rfl, hlt, y⟩, fun v H' y => ?_⟩
    have I3 := gy v H' y
    have hl2 : (T ++ R).length = (Tv ++ Rv).length := by rw [List.length_append, List.length_append, hl, hr]
    refine g2 b σ2 H' ε2 (T ++ R) (Tv ++ Rv) ds[i] v _ _ (by simpa only [List.append_assoc] using I3) hl2 z2 fun ε4 σ4 H4 I4 z4 => ?_
    refine t2 b σ4 H4 ε4 (T ++ R) (Tv ++ Rv) W _ _ I4 z4 ⟨fun σ5 H5 ε5 I5 z5 => ⟨ε5, I5, z5⟩, fun σ5 H5 ε5 d5 v5 I5 z5 => l.rt σ5 H5 ε5 d5 v5 ?_ z5, fun σ5 H5 ε5 I5 z5 => l.nx σ5 H5 ε5 (I5.drop hl) z5, fun σ5 H5 ε5 I5 z5 => ⟨ε5, I5, z5⟩⟩ (x.more hl hr)
    exact SI.midDrops (by simpa only [List.append_assoc] using I5) hl hr
  · left
    have e : i = ds.length := by omega
    subst e
    rw [List.drop_length] at z2
    exact ⟨stop (Nat.le_refl _), l.nx σ2 H2 ε2 (I2.drop hl) z2⟩
/-! ### what is walked -/
/-- a list, a tuple that stands still -/
def viSeq (t : VTE) : VTA := fun N ε Q => t N ε fun d ε1 => ∃ ds, items d = some ds ∧ isFz d = true ∧ Q ds ε1
theorem wk_lst {K : PySem.W.Frag} {ds : List D} {a : Addr} : Wk K (Itl K a) ds [.lst false ds] [.ref a] := fun b σ H ε T Tv i hl I => by
  obtain ⟨G, F, Ft, J⟩ := id I
  obtain ⟨F1, F2, rfl, r1, r2⟩ := J.temps.split2 hl
  obtain ⟨a', vs, e, s, rfl, r⟩ := RpL.one.mp r2
  cases e
  have s2 := J.sub.sqL s
  refine ⟨fun d hd => ?_, fun h => ⟨vs, s2, by rw [← r.len]; exact h⟩⟩
  obtain ⟨v, hv, rv⟩ := r.get hd
  refine ⟨⟨vs, v, s2, hv⟩, fun x H' y => ?_⟩
  obtain ⟨rfl, y⟩ := y
  have := y vs s2
  rw [hv] at this
  cases this
  have J2 := J.push (rv.mono (H' := H') Sub.refl fun _ z => nomatch z)
  exact ⟨G, F, _, by simpa only [List.append_assoc] using J2⟩
theorem wk_tup {K : PySem.W.Frag} {ds : List D} {a : Addr} (hz : isFzL ds = true) : Wk K (Itt K a) ds [.tup ds] [.ref a] := fun b σ H ε T Tv i hl I => by
  obtain ⟨G, F, Ft, J⟩ := id I
  obtain ⟨F1, F2, rfl, r1, r2⟩ := J.temps.split2 hl
  obtain ⟨a', vs, e, s, r⟩ := RpL.one.mp r2
  cases e
  have := r.fz hz
  subst this
  have s2 : SqT K H a vs := SqT.of (J.sub _ _ s)
  refine ⟨fun d hd => ?_, fun h => ⟨vs, s2, by rw [← r.len]; exact h⟩⟩
  obtain ⟨v, hv, rv⟩ := r.get hd
  refine ⟨⟨vs, v, s2, hv⟩, fun x H' y => ?_⟩
  obtain ⟨rfl, y⟩ := y
  have := y vs s2
  rw [hv] at this
  cases this
  have J2 := J.push (rv.mono (H' := H') Sub.refl fun _ z => nomatch z)
  exact ⟨G, F, _, by simpa only [List.append_assoc] using J2⟩
/-- a list and a tuple begin a loop in one way -/
theorem pi_or {Y : Cx} {tg iter : Expr} {u v : TI} (h : PI Y tg iter u) (g : PI Y tg iter v) : PI Y tg iter (fun σ H R => u σ H R ∨ v σ H R) := ⟨fun pins s σ H R I z => z.elim (h.run pins s σ H R I) (g.run pins s σ H R I)⟩
end
end VL
/-! VL6: what is walked, while, comprehensions. -/
namespace VL
open PySem PySem.Spec PyProof.Rows L2 VL
section
variable {X : Cv} {tg : Expr}
theorem lenApp {α β : Type} {A B : List α} {C D : List β} (h : A.length = C.length) (k : B.length = D.length) : (A ++ B).length = (C ++ D).length := by
  rw [List.length_append, List.length_append, h, k]
/-- for .. in a list that stands still -/
def viLst (t : VTE) : VTA := fun N ε Q => t N ε fun d ε1 => ∃ ds, d = .lst false ds ∧ Q ds ε1
def viTup (t : VTE) : VTA := fun N ε Q => t N ε fun d ε1 => ∃ ds, d = .tup ds ∧ isFzL ds = true ∧ Q ds ε1
theorem vi_lst {e : Expr} {t : VTE} (h : VE X e t) : VI X tg e (viLst t) := by
  obtain ⟨t', a1, a2⟩ := h.ex
  refine ⟨fun W => iList X.K (t' W), fun W tk => pi_list (a1 W tk), fun b σ H ε T Tv W N Q Q' I q k x => ?_⟩
  refine a2 b σ H ε T Tv W N _ _ I q (fun d v ε1 H1 J z => ?_) x
  obtain ⟨ds, rfl, z⟩ := z
  obtain ⟨G, F, su, r⟩ := J.last I.lenT
  obtain ⟨a, vs, rfl, s, _, _⟩ := r
  exact ⟨a, rfl, ⟨vs, su.sqL s⟩, k ds [.lst false ds] [.ref a] _ ε1 H1 J rfl wk_lst z⟩
theorem vi_tup {e : Expr} {t : VTE} (h : VE X e t) : VI X tg e (viTup t) := by
  obtain ⟨t', a1, a2⟩ := h.ex
  refine ⟨fun W => iTup X.K (t' W), fun W tk => pi_tup (a1 W tk), fun b σ H ε T Tv W N Q Q' I q k x => ?_⟩
  refine a2 b σ H ε T Tv W N _ _ I q (fun d v ε1 H1 J z => ?_) x
  obtain ⟨ds, rfl, hz, z⟩ := z
  obtain ⟨G, F, su, r⟩ := J.last I.lenT
  obtain ⟨a, vs, rfl, s, _⟩ := r
  exact ⟨a, rfl, ⟨vs, SqT.of (su _ _ s)⟩, k ds [.tup ds] [.ref a] _ ε1 H1 J rfl (wk_tup hz) z⟩
/-- lo, lo + 1, .. -/
def rng (lo : Int) (n : Nat) : List D := (List.range n).map fun (i : Nat) => D.int (lo + (i : Int))
theorem rng_get {lo : Int} {n i : Nat} {d : D} (h : (rng lo n)[i]? = some d) : i < n ∧ d = .int (lo + i) := by
  unfold rng at h
  rw [List.getElem?_map] at h
  cases e : (List.range n)[i]? with
  | none => rw [e] at h; cases h
  | some j =>
    rw [e] at h
    have := List.getElem?_eq_some_iff.mp e
    obtain ⟨h1, h2⟩ := this
    rw [List.getElem_range] at h2
    subst h2
    simp at h
    exact ⟨by simpa using h1, h.symm⟩
theorem rng_len (lo : Int) (n : Nat) : (rng lo n).length = n := by simp [rng]
theorem wk_rng {K : PySem.W.Frag} {lo : Int} {n : Nat} : Wk K (Itr lo n) (rng lo n) [] [] := fun b σ H ε T Tv i hl I => by
  refine ⟨fun d hd => ?_, fun h => by rw [rng_len] at h; exact h⟩
  obtain ⟨hi, rfl⟩ := rng_get hd
  refine ⟨hi, fun x H' y => ?_⟩
  obtain ⟨rfl, rfl⟩ := y
  have I2 : SI K b σ H' ε T Tv := by simpa using I
  exact I2.push fun G => ⟨rfl, rfl⟩
def viR1 (t : VTA) : VTA := fun N ε Q => t N ε fun ds ε1 => ∃ j : Int, ds = [.int j] ∧ -(2 ^ 62) ≤ j ∧ j < 2 ^ 62 ∧ Q (rng 0 j.toNat) ε1
def viR2 (t : VTA) : VTA := fun N ε Q => t N ε fun ds ε1 => ∃ i j : Int, ds = [.int i, .int j] ∧ (-(2 ^ 62) ≤ i ∧ i < 2 ^ 62 ∧ -(2 ^ 62) ≤ j ∧ j < 2 ^ 62) ∧ Q (rng i (j - i).toNat) ε1
theorem vi_range1 {a : Expr} {t : VTA} {p pos : Pos} (hg : Gl X.toCx "range") (hm : X.mg "range" = none) (ha : VA X [a] [none] t) (hs : starEach [a] X.env = [(false, eval a X.env)] := by rfl) : VI X tg (.Call (.Name "range" p) [a] [] pos) (viR1 t) := by
  obtain ⟨t', a1, a2⟩ := ha.ex
  refine ⟨fun W => iRng1 (t' W), fun W tk => pi_range1 hg hm (a1 W tk) hs, fun b σ H ε T Tv W N Q Q' I q k x => ?_⟩
  refine a2 b σ H ε T Tv W N _ _ I q (fun ds vs ε1 H1 J l hh z => ?_) x
  obtain ⟨j, rfl, h1, h2, z⟩ := z
  obtain ⟨v, rfl⟩ := List.length_eq_one_iff.mp l.symm
  obtain ⟨G, F, su, rfl, _⟩ := J.last I.lenT
  exact ⟨j, rfl, h1, h2, k _ [] [] _ ε1 H1 (by simpa using J.pop I.lenT) rfl wk_rng z⟩
theorem SI.last2 {K : PySem.W.Frag} {b : Bs} {σ : L2.St} {H : Hp} {ε : Ep} {T : List D} {Tv : List V} {d e : D} {v w : V} (I : SI K b σ H ε (T ++ [d, e]) (Tv ++ [v, w])) (hl : T.length = Tv.length) : ∃ G F1 F2, Sub G H ∧ Rp K G H d v F1 ∧ Rp K G H e w F2 := by
  obtain ⟨G, F, Ft, J⟩ := I
  obtain ⟨F1, F2, rfl, r1, r2⟩ := J.temps.split2 hl
  obtain ⟨v', vs', A, B, e1, rfl, ra, v2, vs2, A2, B2, e2, rfl, rb, _⟩ := r2
  cases e1
  cases e2
  exact ⟨G, A, A2, J.sub, ra, rb⟩
theorem len2 {α : Type} {l : List α} (h : 2 = l.length) : ∃ a b, l = [a, b] := by
  match l, h with
  | [a, b], _ => exact ⟨a, b, rfl⟩
theorem vi_range2 {a c : Expr} {t : VTA} {p pos : Pos} (hg : Gl X.toCx "range") (hm : X.mg "range" = none) (ha : VA X [a, c] [none, none] t) (hs : starEach [a, c] X.env = [(false, eval a X.env), (false, eval c X.env)] := by rfl) (hs2 : starEach [c] X.env = [(false, eval c X.env)] := by rfl) : VI X tg (.Call (.Name "range" p) [a, c] [] pos) (viR2 t) := by
  obtain ⟨t', a1, a2⟩ := ha.ex
  refine ⟨fun W => iRng2 (t' W), fun W tk => pi_range2 hg hm (a1 W tk) hs hs2, fun b σ H ε T Tv W N Q Q' I q k x => ?_⟩
  refine a2 b σ H ε T Tv W N _ _ I q (fun ds vs ε1 H1 J l hh z => ?_) x
  obtain ⟨i, j, rfl, h1, z⟩ := z
  obtain ⟨v, w, rfl⟩ := len2 l
  obtain ⟨G, F, F2, su, ⟨rfl, _⟩, rfl, _⟩ := J.last2 I.lenT
  exact ⟨i, j, rfl, h1, k _ [] [] _ ε1 H1 (by simpa using J.drop I.lenT) rfl wk_rng z⟩
/-- with their places, with one another -/
def enumD (ds : List D) : List D := ds.zipIdx.map fun p => D.tup [.int (p.2 : Nat), p.1]
def zipD (ds es : List D) : List D := (ds.zip es).map fun p => D.tup [p.1, p.2]
theorem enumD_get {ds : List D} {i : Nat} {d : D} (h : (enumD ds)[i]? = some d) : ∃ x, ds[i]? = some x ∧ d = .tup [.int (i : Nat), x] := by
  unfold enumD at h
  rw [List.getElem?_map, List.getElem?_zipIdx] at h
  cases e : ds[i]? with
  | none => rw [e] at h; cases h
  | some x =>
    rw [e] at h
    simp at h
    exact ⟨x, rfl, h.symm⟩
theorem enumD_len (ds : List D) : (enumD ds).length = ds.length := by simp [enumD]
theorem zipD_get {ds es : List D} {i : Nat} {d : D} (h : (zipD ds es)[i]? = some d) : ∃ x y, ds[i]? = some x ∧ es[i]? = some y ∧ d = .tup [x, y] := by
  unfold zipD at h
  rw [List.getElem?_map] at h
  cases e : (ds.zip es)[i]? with
  | none => rw [e] at h; cases h
  | some p =>
    rw [e] at h
    obtain ⟨h1, h2⟩ := List.getElem?_zip_eq_some.mp e
    simp at h
    exact ⟨p.1, p.2, h1, h2, h.symm⟩
theorem zipD_len (ds es : List D) : (zipD ds es).length = min ds.length es.length := by simp [zipD]
/-- a new tuple of things that stand still -/
theorem SI.newTup {K : PySem.W.Frag} {b : Bs} {σ : L2.St} {H : Hp} {ε : Ep} {T : List D} {Tv : List V} {ds : List D} {vs : List V} (I : SI K b σ H ε (T ++ ds) (Tv ++ vs)) (hl : T.length = Tv.length) {p : Addr} (n : H p = none) : SI K b σ (upd H p (.tup vs)) ε (T ++ [.tup ds]) (Tv ++ [.ref p]) := I.tup hl n
theorem wk_enum {K : PySem.W.Frag} {ds : List D} {a : Addr} : Wk K (Ite K a) (enumD ds) [.lst false ds] [.ref a] := fun b σ H ε T Tv i hl I => by
  obtain ⟨G, F, Ft, J⟩ := id I
  obtain ⟨F1, F2, rfl, r1, r2⟩ := J.temps.split2 hl
  obtain ⟨a', vs, e, s, rfl, r⟩ := RpL.one.mp r2
  cases e
  have s2 := J.sub.sqL s
  refine ⟨fun d hd => ?_, fun h => ⟨vs, s2, by rw [← r.len, ← enumD_len]; exact h⟩⟩
  obtain ⟨c, hc, rfl⟩ := enumD_get hd
  obtain ⟨v, hv, rv⟩ := r.get hc
  refine ⟨⟨vs, v, s2, hv⟩, fun x H' y => ?_⟩
  obtain ⟨p, w, rfl, hp, rfl, y⟩ := y
  have := y vs s2
  rw [hv] at this
  cases this
  have J1 := J.push (d := .int (i : Nat)) (v := .int (i : Nat)) ⟨rfl, rfl⟩
  have J2 := J1.push (rv.mono (H' := H) Sub.refl fun _ z => nomatch z)
  have I2 : SI K b σ H ε ((T ++ [.lst false ds]) ++ [.int (i : Nat), c]) ((Tv ++ [.ref a]) ++ [.int (i : Nat), v]) := ⟨G, F, _, by simpa only [List.append_assoc, List.cons_append, List.nil_append] using J2⟩
  have I3 := I2.newTup (lenApp hl rfl) hp
  simpa only [List.append_assoc] using I3
def viEnum (t : VTA) : VTA := fun N ε Q => t N ε fun ds ε1 => ∃ xs, ds = [.lst false xs] ∧ Q (enumD xs) ε1
theorem vi_enum {e : Expr} {t : VTA} {p pos tpos : Pos} {elts : List Expr} {kk : Nat} (hg : Gl X.toCx "enumerate") (hm : X.mg "enumerate" = none) (ha : VA X [e] [none] t) (hs : starEach [e] X.env = [(false, eval e X.env)] := by rfl) : VI X (.Tuple elts kk tpos) (.Call (.Name "enumerate" p) [e] [] pos) (viEnum t) := by
  obtain ⟨t', a1, a2⟩ := ha.ex
  refine ⟨fun W => iEnum X.K (t' W), fun W tk => pi_enum hg hm (a1 W tk) hs, fun b σ H ε T Tv W N Q Q' I q k x => ?_⟩
  refine a2 b σ H ε T Tv W N _ _ I q (fun ds vs ε1 H1 J l hh z => ?_) x
  obtain ⟨xs, rfl, z⟩ := z
  obtain ⟨v, rfl⟩ := List.length_eq_one_iff.mp l.symm
  obtain ⟨G, F, su, r⟩ := J.last I.lenT
  obtain ⟨a, us, rfl, s, _, _⟩ := r
  exact ⟨a, us, rfl, su.sqL s, k _ [.lst false xs] [.ref a] _ ε1 H1 J rfl wk_enum z⟩
theorem wk_zip {K : PySem.W.Frag} {ds es : List D} {a c : Addr} : Wk K (Itz K a c) (zipD ds es) [.lst false ds, .lst false es] [.ref a, .ref c] := fun b σ H ε T Tv i hl I => by
  obtain ⟨G, F, Ft, J⟩ := id I
  obtain ⟨F1, F2, rfl, r1, r2⟩ := J.temps.split2 hl
  obtain ⟨v', vs', A, B, e1, rfl, ra, v2, vs2, A2, B2, e2, rfl, rb, rfl, rfl⟩ := r2
  cases e1
  cases e2
  obtain ⟨a', vs, e, s, rfl, r⟩ := ra
  cases e
  obtain ⟨c', us, e, s', rfl, r'⟩ := rb
  cases e
  have s2 := J.sub.sqL s
  have s3 := J.sub.sqL s'
  refine ⟨fun d hd => ?_, fun h => ⟨vs, us, s2, s3, by rw [zipD_len] at h; rw [← r.len, ← r'.len]; omega⟩⟩
  obtain ⟨x, y, hx, hy, rfl⟩ := zipD_get hd
  obtain ⟨v, hv, rv⟩ := r.get hx
  obtain ⟨u, hu, ru⟩ := r'.get hy
  refine ⟨⟨vs, us, v, u, s2, s3, hv, hu⟩, fun z H' q => ?_⟩
  obtain ⟨p, w1, w2, rfl, hp, rfl, y1, y2⟩ := q
  have e1 := y1 vs s2
  rw [hv] at e1
  cases e1
  have e2 := y2 us s3
  rw [hu] at e2
  cases e2
  have J1 := J.push (rv.mono (H' := H) Sub.refl fun _ z => nomatch z)
  have J2 := J1.push (ru.mono (H' := H) Sub.refl fun _ z => nomatch z)
  have I2 : SI K b σ H ε ((T ++ [.lst false ds, .lst false es]) ++ [x, y]) ((Tv ++ [.ref a, .ref c]) ++ [v, u]) := ⟨G, F, _, by simpa only [List.append_assoc, List.cons_append, List.nil_append] using J2⟩
  have I3 := I2.newTup (lenApp hl rfl) hp
  simpa only [List.append_assoc] using I3
def viZip (t : VTA) : VTA := fun N ε Q => t N ε fun ds ε1 => ∃ xs ys, ds = [.lst false xs, .lst false ys] ∧ Q (zipD xs ys) ε1
theorem vi_zip {e e2 : Expr} {t : VTA} {p pos tpos : Pos} {elts : List Expr} {kk : Nat} (hg : Gl X.toCx "zip") (hm : X.mg "zip" = none) (ha : VA X [e, e2] [none, none] t)
    (hs : starEach [e, e2] X.env = (false, eval e X.env) :: starEach [e2] X.env := by rfl) (hpl : (backTo pos (starEach [e2] X.env)).any (·.1) = false := by rfl) : VI X (.Tuple elts kk tpos) (.Call (.Name "zip" p) [e, e2] [] pos) (viZip t) := by
  obtain ⟨t', a1, a2⟩ := ha.ex
  refine ⟨fun W => iZip X.K (t' W), fun W tk => pi_zip hg hm (a1 W tk) hs hpl, fun b σ H ε T Tv W N Q Q' I q k x => ?_⟩
  refine a2 b σ H ε T Tv W N _ _ I q (fun ds vs ε1 H1 J l hh z => ?_) x
  obtain ⟨xs, ys, rfl, z⟩ := z
  obtain ⟨v, w, rfl⟩ := len2 l
  obtain ⟨G, F, F2, su, r, r'⟩ := J.last2 I.lenT
  obtain ⟨a, us, rfl, s, _, _⟩ := r
  obtain ⟨c, ws, rfl, s', _, _⟩ := r'
  exact ⟨a, c, us, ws, rfl, su.sqL s, su.sqL s', k _ [.lst false xs, .lst false ys] [.ref a, .ref c] _ ε1 H1 J rfl wk_zip z⟩
theorem wk_rev {K : PySem.W.Frag} {ds : List D} {a : Addr} : Wk K (Itv K a ds.length) ds.reverse [.lst false ds] [.ref a] := fun b σ H ε T Tv i hl I => by
  obtain ⟨G, F, Ft, J⟩ := id I
  obtain ⟨F1, F2, rfl, r1, r2⟩ := J.temps.split2 hl
  obtain ⟨a', vs, e, s, rfl, r⟩ := RpL.one.mp r2
  cases e
  have s2 := J.sub.sqL s
  refine ⟨fun d hd => ?_, fun h => by rw [List.length_reverse] at h; exact h⟩
  have hi : i < ds.length := by
    have := (List.getElem?_eq_some_iff.mp hd).1
    rwa [List.length_reverse] at this
  rw [List.getElem?_reverse hi] at hd
  obtain ⟨v, hv, rv⟩ := r.get hd
  refine ⟨⟨hi, vs, v, s2, hv⟩, fun x H' y => ?_⟩
  obtain ⟨rfl, y⟩ := y
  have := y vs s2
  rw [hv] at this
  cases this
  have J2 := J.push (rv.mono (H' := H') Sub.refl fun _ z => nomatch z)
  exact ⟨G, F, _, by simpa only [List.append_assoc] using J2⟩
def viRev (t : VTA) : VTA := fun N ε Q => t N ε fun ds ε1 => ∃ xs, ds = [.lst false xs] ∧ Q xs.reverse ε1
theorem vi_rev {e : Expr} {t : VTA} {p pos : Pos} (hg : Gl X.toCx "reversed") (hm : X.mg "reversed" = none) (ha : VA X [e] [none] t) (hs : starEach [e] X.env = [(false, eval e X.env)] := by rfl) : VI X tg (.Call (.Name "reversed" p) [e] [] pos) (viRev t) := by
  obtain ⟨t', a1, a2⟩ := ha.ex
  refine ⟨fun W => iRev X.K (t' W), fun W tk => pi_reversed hg hm (a1 W tk) hs, fun b σ H ε T Tv W N Q Q' I q k x => ?_⟩
  refine a2 b σ H ε T Tv W N _ _ I q (fun ds vs ε1 H1 J l hh z => ?_) x
  obtain ⟨xs, rfl, z⟩ := z
  obtain ⟨v, rfl⟩ := List.length_eq_one_iff.mp l.symm
  obtain ⟨G, F, su, r⟩ := J.last I.lenT
  obtain ⟨a, us, rfl, s, _, rr⟩ := r
  refine ⟨a, us, rfl, su.sqL s, ?_⟩
  rw [← rr.len]
  exact k _ [.lst false xs] [.ref a] _ ε1 H1 J rfl wk_rev z
/-- a text, sign by sign -/
theorem wk_str {K : PySem.W.Frag} {s : Cs} : Wk K (Its (toS s)) (s.map fun c => D.str [c]) [] [] := fun b σ H ε T Tv i hl I => by
  have sz : (toS s).cps.size = s.length := by simp [toS]
  refine ⟨fun d hd => ?_, fun h => by show (toS s).cps.size ≤ i; rw [sz]; simpa using h⟩
  rw [List.getElem?_map] at hd
  cases e : s[i]? with
  | none => rw [e] at hd; cases hd
  | some c =>
    rw [e] at hd
    cases hd
    refine ⟨by show i < (toS s).cps.size; rw [sz]; exact (List.getElem?_eq_some_iff.mp e).1, fun x H' y => ?_⟩
    obtain ⟨rfl, c', hc', rfl⟩ := y
    have : (toS s).cps[i]? = s[i]? := by simp [toS]
    rw [this, e] at hc'
    cases hc'
    have I2 : SI K b σ H' ε T Tv := by simpa using I
    exact I2.push fun G => ⟨rfl, rfl⟩
def viStr (t : VTE) : VTA := fun N ε Q => t N ε fun d ε1 => ∃ s : Cs, d = .str s ∧ Q (s.map fun c => D.str [c]) ε1
theorem vi_str {e : Expr} {t : VTE} (h : VE X e t) : VI X tg e (viStr t) := by
  obtain ⟨t', a1, a2⟩ := h.ex
  refine ⟨fun W => iStr (t' W), fun W tk => pi_str (a1 W tk), fun b σ H ε T Tv W N Q Q' I q k x => ?_⟩
  refine a2 b σ H ε T Tv W N _ _ I q (fun d v ε1 H1 J z => ?_) x
  obtain ⟨s, rfl, z⟩ := z
  obtain ⟨G, F, su, rfl, _⟩ := J.last I.lenT
  exact ⟨toS s, rfl, k _ [] [] _ ε1 H1 (by simpa using J.pop I.lenT) rfl wk_str z⟩
/-! ### while -/
def vWhile (c : VTT) (t : VTS) : VTS := fun N ε => ∃ J : Nat → Ep → Prop, (∃ m, J m ε) ∧ ∀ m ε, J m ε → c N.rx ε fun k ε1 =>
  if k = true then t { N with nx := fun ε' => ∃ m', m' < m ∧ J m' ε', ct := fun ε' => ∃ m', m' < m ∧ J m' ε', bk := N.nx } ε1 else N.nx ε1
theorem vs_while {c : Expr} {body : List Stmt} {tc : VTT} {t : VTS} {pos : Pos} (hp : PassesOwn (model X.prog X.w) X.A X.env X.xe) (hc : VT X c tc) (hb : VSs X body t) : VS X (.While c body [] pos) (vWhile tc t) := by
  obtain ⟨c', c1, c2⟩ := hc.ex
  obtain ⟨t', t1, t2⟩ := hb.ex
  refine ⟨fun W => tWhile (c' W) (t' W), fun W tk => ps_while hp (c1 W tk) (t1 W tk), fun b σ H ε T Tv W N E I q l x => ?_⟩
  obtain ⟨J, ⟨m0, j0⟩, turn⟩ := q
  refine ⟨fun m σ H => ∃ ε, SI X.K b.1 σ H ε T Tv ∧ J m ε, ⟨m0, ε, I, j0⟩, ?_⟩
  rintro m σ2 H2 ⟨ε2, I2, j2⟩
  refine c2 b σ2 H2 ε2 T Tv W N.rx _ _ I2 (turn m ε2 j2) (fun k ε3 H3 I3 z => ?_) x
  cases k with
  | true =>
    refine ⟨fun σ' H' => ∃ ε', SI X.K b.1 σ' H' ε' T Tv ∧ ∃ m', m' < m ∧ J m' ε', fun σ' H' ⟨ε', I', m', hm, j'⟩ => ⟨m', hm, ε', I', j'⟩, ?_⟩
    exact t2 b σ2 H3 ε3 T Tv W _ _ I3 z ⟨fun σ5 H5 ε5 I5 z5 => ⟨ε5, I5, z5⟩, l.rt, l.nx, fun σ5 H5 ε5 I5 z5 => ⟨ε5, I5, z5⟩⟩ x
  | false => exact l.nx σ2 H3 ε3 I3 z
end
end VL
/-! VL7: a def's promise over trees, its call, its body. -/
namespace VL
open PySem PySem.Spec PyProof.Rows L2 VL
/-- a promise over trees: the arguments; what is wanted of the answer and of the arguments behind; of an exception's class and row -/
abbrev VSp := List D → (D → List D → Prop) → (Value → D → List D → Prop) → Prop
/-- the ground of a call -/
def callB (H G : Hp) (F : List Addr) : Bs := { H0 := H, G0 := G, F0 := F, kv := [] }
def Lift (K : PySem.W.Frag) (n : Nat) (vsp : VSp) : Sp := fun vs H Q E => ∃ G F ds, SIx K (callB H G F) G [] F [] H [] ds vs ∧ ds.length = n ∧
  vsp ds (fun r ds' => ∀ v H', SI K (callB H G F) [] H' [] (ds' ++ [r]) (vs ++ [v]) → Q v H')
    (fun cls row ds' => ∀ dd v H', SI K (callB H G F) [] H' [] (ds' ++ [row]) (vs ++ [v]) → H' dd = some (.xd [("row", v)]) → (dd ∈ F ∨ H dd = none) → E (clsV K cls) (some dd) H')
theorem Lift.len {K : PySem.W.Frag} {n : Nat} {vsp : VSp} {vs : List V} {H : Hp} {Q : VK} {E : XK} (h : Lift K n vsp vs H Q E) : vs.length = n := by
  obtain ⟨G, F, ds, I, l, _⟩ := h
  rw [← I.lenT, l]
section
variable {K : PySem.W.Frag} {b : Bs} {σ : L2.St} {H H' : Hp} {ε : Ep} {T : List D} {Tv : List V}
/-- what a callee is handed -/
theorem SI.enter {ds : List D} {vs : List V} (I : SI K b σ H ε (T ++ ds) (Tv ++ vs)) (hl : T.length = Tv.length) : ∃ G F, SIx K (callB H G F) G [] F [] H [] ds vs ∧
    (∀ H' (R : List D) (Rv : List V), SI K (callB H G F) [] H' [] R Rv → SI K b σ H' ε (T ++ R) (Tv ++ Rv)) ∧ ∀ a, (a ∈ F ∨ H a = none) → (a ∈ b.F0 ∨ b.H0 a = none) := by
  obtain ⟨G, F, Ft, J⟩ := I
  obtain ⟨F1, F2, rfl, r1, r2⟩ := J.temps.split2 hl
  have i2 : ∀ a ∈ F2, a ∈ F ++ (F1 ++ F2) := fun a z => List.mem_append_right _ (List.mem_append_right _ z)
  have nd := J.nd
  rw [← List.append_assoc] at nd
  obtain ⟨nd1, nd2, dj⟩ := List.nodup_append.mp nd
  refine ⟨G, F2, ⟨Sub.refl, J.sub, ⟨rfl, rfl⟩, r2, by simpa using nd2, fun a z => J.fr a (i2 a (by simpa using z)), fun a z => .inl (show a ∈ F2 by simpa using z), fun a o e => .inl e, fun a o e _ => e, fun j v e => by simp [callB] at e⟩, ?_, fun a z => z.elim (fun z => J.own a (i2 a z)) fun z => J.h0 z⟩
  rintro H' R Rv ⟨G', Fs, F', J'⟩
  obtain ⟨_, rfl⟩ := J'.slots
  have out : ∀ a ∈ F ++ F1, a ∉ F2 ∧ ∃ o, H a = some o := fun a z => by
    refine ⟨fun h => dj a z a h rfl, ?_⟩
    rcases List.mem_append.mp z with z | z
    · obtain ⟨o, e, _⟩ := J.slots.there a z
      exact ⟨o, e⟩
    · obtain ⟨o, e, _⟩ := r1.there a z
      exact ⟨o, e⟩
  have kp : ∀ a ∈ F ++ F1, H' a = H a := fun a z => by
    obtain ⟨n, o, e⟩ := out a z
    rw [e]
    exact J'.keep a o e n
  have own' : ∀ a ∈ F', a ∈ F2 ∨ H a = none := fun a z => J'.own a (by simpa using z)
  refine ⟨G', F, F1 ++ F', J.s0.trans J'.s0, J'.sub, J.slots.mono J'.s0 fun a z => kp a (List.mem_append_left _ z), (r1.mono J'.s0 fun a z => kp a (List.mem_append_right _ z)).append J'.temps, ?_, ?_, ?_, ?_, ?_, J.kept⟩
  · rw [← List.append_assoc]
    refine List.nodup_append.mpr ⟨nd1, by simpa using J'.nd, fun a z c hc e => ?_⟩
    subst e
    obtain ⟨n, o, e⟩ := out a z
    rcases own' a hc with h | h
    · exact n h
    · rw [e] at h; cases h
  · intro a z
    rw [← List.append_assoc] at z
    rcases List.mem_append.mp z with z | z
    · obtain ⟨n, o, e⟩ := out a z
      cases q : G' a with
      | none => rfl
      | some u =>
        rcases J'.gn a u q with h | h | h | ⟨vs, h⟩
        · have := J.fr a (by rw [← List.append_assoc]; exact List.mem_append_left _ z)
          rw [show G a = some u from h] at this
          cases this
        · exact absurd h n
        · rw [show H a = none from h] at e; cases e
        · subst h
          have h1 := J'.sub a _ q
          rw [kp a z] at h1
          have h2 : ∃ o, H a = some o ∧ Mut (some o) := by
            rcases List.mem_append.mp z with z | z
            · exact J.slots.there a z
            · exact r1.there a z
          obtain ⟨o2, e2, m2⟩ := h2
          rw [h1] at e2
          cases e2
          exact m2.elim
    · exact J'.fr a (by simpa using z)
  · intro a z
    rw [← List.append_assoc] at z
    rcases List.mem_append.mp z with z | z
    · exact J.own a (by rw [← List.append_assoc]; exact List.mem_append_left _ z)
    · rcases own' a z with h | h
      · exact J.own a (i2 a h)
      · cases e : b.H0 a with
        | none => exact .inr rfl
        | some o =>
          by_cases h0 : a ∈ b.F0
          · exact .inl h0
          · rw [J.keep a o e h0] at h; cases h
  · intro a o e
    rcases J'.gn a o e with h | h | h | h
    · exact J.gn a o h
    · exact .inr (inl3 (J.own a (i2 a h)))
    · right
      cases e : b.H0 a with
      | none => exact .inr (.inl rfl)
      | some o =>
        by_cases h0 : a ∈ b.F0
        · exact .inl h0
        · have z := J.keep a o e h0
          rw [show H a = none from h] at z; cases z
    · exact .inr (.inr (.inr h))
  · intro a o e n
    refine J'.keep a o (J.keep a o e n) fun h => ?_
    rcases J.own a (i2 a h) with q | q
    · exact n q
    · rw [e] at q; cases q
end
/-- a def that keeps a promise over trees: its name, its level, how many parameters it has, the defaults that fill up -/
structure Fv (P : Program) (w : World) (K : PySem.W.Frag) (mg : Str → Option Value) (base : Heap) (x : Str) (k n : Nat) (vsp : VSp) : Prop where
  ex : ∃ f fd ps, mg x = some (.ref f) ∧ PySem.W.keepIn K (.ref f) = true ∧ Binds K fd ps [] ∧ FnOk P w K mg base (VL.CX P w) k f fd ps (Lift K n vsp)
theorem Fv.mono {P w K mg base x j k n vsp} (F : Fv P w K mg base x j n vsp) (h : j ≤ k) : Fv P w K mg base x k n vsp := let ⟨f, fd, ps, a, b, c, d⟩ := F.ex; ⟨f, fd, ps, a, b, c, d.mono h⟩
section
variable {X : Cv}
def vCall (vsp : VSp) (rs : List (Option Nat)) (t : VTA) : VTE := fun N ε Q => t N ε fun ds ε1 => vsp ds (fun r ds' => ds'.length = ds.length ∧ Q r (restore rs ds' ε1)) (fun cls row ds' => ds'.length = ds.length ∧ N cls row (restore rs ds' ε1))
theorem call_run {P : VSp} {n : Nat} {b : Bx X} {σ : L2.St} {H : Hp} {ε : Ep} {T : List D} {Tv : List V} {ds : List D} {vs : List V} {rs : List (Option Nat)} {W : WX} {N : WV} {Q : D → Ep → Prop} {Q' : VK}
    (hl : T.length = Tv.length) (hd : ds.length = vs.length) (hn : ds.length = n) (I : SI X.K b.1 σ H ε (T ++ ds) (Tv ++ vs)) (hh : Held σ rs vs)
    (q : P ds (fun r ds' => ds'.length = ds.length ∧ Q r (restore rs ds' ε)) (fun cls row ds' => ds'.length = ds.length ∧ N cls row (restore rs ds' ε)))
    (mono : ∀ (A A' : D → List D → Prop) (B B' : Value → D → List D → Prop), (∀ r l, A r l → A' r l) → (∀ c r l, B c r l → B' c r l) → P ds A B → P ds A' B')
    (k : ∀ d v ε' H', SI X.K b.1 σ H' ε' (T ++ [d]) (Tv ++ [v]) → Q d ε' → Q' v H') (x : XL X.K b.1 T Tv W N) : Lift X.K n P vs H Q' (fun cls d H' => W cls d σ H') := by
  obtain ⟨G, F, J, out, fr⟩ := I.enter hl
  refine ⟨G, F, ds, J, hn, mono _ _ _ _ (fun r ds' z v H' I' => ?_) (fun cls row ds' z dd v H' I' e n => ?_) q⟩
  · have I2 := out H' _ _ I'
    exact k r v _ H' (SI.restore hl hh (z.1.trans hd) I2) z.2
  · have I2 := out H' _ _ I'
    exact x cls dd σ H' _ row v (SI.restore hl hh (z.1.trans hd) I2) e (fr dd n) z.2
/-- a promise that asks no more of more -/
def Mono (vsp : VSp) : Prop := ∀ (ds : List D) (A A' : D → List D → Prop) (B B' : Value → D → List D → Prop), (∀ r l, A r l → A' r l) → (∀ c r l, B c r l → B' c r l) → vsp ds A B → vsp ds A' B'
theorem ve_call {x : Str} {p pos : Pos} {e : Expr} {es : List Expr} {rs : List (Option Nat)} {t : VTA} {k n : Nat} {vsp : VSp} (F : Fv X.prog X.w X.K X.mg X.base x k n vsp) (m : Mono vsp) (hr : Room k X.A) (hg : Gl X.toCx x) (hn : (e :: es).length = n) (ha : VA X (e :: es) rs t)
    (hrs : rs.length = (e :: es).length := by rfl) (hdb : (x == ("__debug__" : Str)) = false := by decide) (he : starEach (e :: es) X.env = (false, eval e X.env) :: starEach es X.env := by rfl) (hpl : (backTo pos (starEach es X.env)).any (·.1) = false := by rfl) :
    VE X (.Call (.Name x p) (e :: es) [] pos) (vCall vsp rs t) := by
  obtain ⟨f, fd, ps, hm, hk, hb, F⟩ := F.ex
  obtain ⟨t', a1, a2⟩ := ha.ex
  refine ⟨fun W => tCallS (Lift X.K n vsp) (WE W) (t' W), fun W tk => pe_callS F hr hg hm hk hb (fun σ => passAt tk σ) (a1 W tk) hdb he hpl, fun b σ H ε T Tv W N Q Q' I q kk x => ?_⟩
  refine a2 b σ H ε T Tv W N _ _ I q (fun ds vs ε1 H1 J l hd z => ?_) x
  exact call_run I.lenT l (by rw [l, ← hd.len, hrs, hn]) J hd z (m ds) kk x
end
/-! ### a def's body -/
/-- the slots at the entry -/
def startE (N : Nat) (ds : List D) : Ep := ds.map some ++ List.replicate (N - ds.length) none
/-- the arguments behind: those whose slots are kept, as they are; the others, where nothing of them was ours -/
def finalL : List Bool → List D → Ep → List D
  | true :: κ, _ :: ds, od :: ε => (match od with | some d => d | none => .hole) :: finalL κ ds ε
  | false :: κ, d :: ds, _ :: ε => (if isFz d = true then d else .hole) :: finalL κ ds ε
  | [], d :: ds, _ :: ε => (if isFz d = true then d else .hole) :: finalL [] ds ε
  | _, _, _ => []
def keptV : List Bool → List V → List (Option V)
  | true :: κ, v :: vs => some v :: keptV κ vs
  | false :: κ, _ :: vs => none :: keptV κ vs
  | _, _ => []
theorem keptV_get : ∀ {κ : List Bool} {vs : List V} {i : Nat} {u : V}, (keptV κ vs)[i]? = some (some u) → κ[i]? = some true ∧ vs[i]? = some u
  | true :: κ, v :: vs, 0, u, h => by simp [keptV] at h; simp [h]
  | true :: κ, v :: vs, i + 1, u, h => by simpa using keptV_get (κ := κ) (vs := vs) (i := i) (u := u) (by simpa [keptV] using h)
  | false :: κ, v :: vs, 0, u, h => by simp [keptV] at h
  | false :: κ, v :: vs, i + 1, u, h => by simpa using keptV_get (κ := κ) (vs := vs) (i := i) (u := u) (by simpa [keptV] using h)
  | [], _, i, u, h => by simp [keptV] at h
  | true :: _, [], i, u, h => by simp [keptV] at h
  | false :: _, [], i, u, h => by simp [keptV] at h
section
variable {K : PySem.W.Frag} {G G' H H' : Hp}
theorem Rp.holeRp (v : V) : Rp K G H .hole v [] := rfl
theorem RpS.start : ∀ {ds : List D} {vs : List V} {F : List Addr} (m : Nat), RpL K G H ds vs F → RpS K G H (ds.map some ++ List.replicate m none) (vs.map some ++ List.replicate m none) F
  | [], vs, F, m, h => by
    obtain ⟨rfl, rfl⟩ := h
    simp only [List.map_nil, List.nil_append]
    induction m with
    | zero => exact ⟨rfl, rfl⟩
    | succ m ih => exact ⟨none, List.replicate m none, [], [], rfl, rfl, rfl, ih⟩
  | d :: ds, vs, F, m, h => by
    obtain ⟨v, vs', F1, F2, rfl, rfl, r, rs⟩ := h
    exact ⟨some v, vs'.map some ++ List.replicate m none, F1, F2, rfl, rfl, ⟨v, rfl, r⟩, RpS.start m rs⟩
/-- what is left of the arguments: a part of what the slots hold -/
theorem final_rp : ∀ {κ : List Bool} {ds : List D} {vs : List V} {F0 : List Addr} {ε : Ep} {σ : L2.St} {F : List Addr}, RpL K G H ds vs F0 → Sub G G' → RpS K G' H' ε σ F → vs.length ≤ ε.length →
    (∀ (j : Nat) v, (keptV κ vs)[j]? = some (some v) → σ[j]? = some (some v)) → ∃ F', RpL K G' H' (finalL κ ds ε) vs F' ∧ F'.Sublist F
  | κ, [], vs, F0, ε, σ, F, h, _, _, _, _ => by
    obtain ⟨rfl, rfl⟩ := h
    refine ⟨[], ?_, List.nil_sublist _⟩
    have : finalL κ [] ε = [] := by
      cases κ with
      | nil => rfl
      | cons c κ => cases c <;> rfl
    rw [this]
    exact ⟨rfl, rfl⟩
  | κ, d :: ds, vs, F0, [], σ, F, h, _, _, hl, _ => by
    obtain ⟨v, vs', F1, F2, rfl, rfl, r, rs⟩ := h
    simp at hl
  | κ, d :: ds, vs, F0, od :: ε, σ, F, h, hs, hS, hl, hk => by
    obtain ⟨v, vs', F1, F2, rfl, rfl, r, rs⟩ := h
    obtain ⟨ov, σ', A, B, rfl, rfl, ro, rS⟩ := hS
    have other : ∀ κ', (∀ (j : Nat) v, (keptV κ' vs')[j]? = some (some v) → σ'[j]? = some (some v)) → ∃ F', RpL K G' H' ((if isFz d = true then d else .hole) :: finalL κ' ds ε) (v :: vs') F' ∧ F'.Sublist (A ++ B) := fun κ' hk' => by
      obtain ⟨F', q, sl⟩ := final_rp (κ := κ') rs hs rS (by simpa using hl) hk'
      have rd : Rp K G' H' (if isFz d = true then d else .hole) v [] := by
        split
        · rename_i z
          have := r.fz z
          subst this
          exact r.mono hs fun _ z => nomatch z
        · exact rfl
      exact ⟨F', ⟨v, vs', [], F', rfl, rfl, rd, q⟩, sl.trans (List.sublist_append_right _ _)⟩
    cases κ with
    | nil => exact other [] fun j u e => by simp [keptV] at e
    | cons c κ =>
      cases c with
      | false => exact other κ fun j u e => by simpa using hk (j + 1) u (by simpa [keptV] using e)
      | true =>
        have h0 := hk 0 v (by simp [keptV])
        simp at h0
        subst h0
        obtain ⟨F', q, sl⟩ := final_rp (κ := κ) rs hs rS (by simpa using hl) fun j u e => by simpa using hk (j + 1) u (by simpa [keptV] using e)
        cases od with
        | none => exact ⟨F', ⟨v, vs', [], F', rfl, rfl, rfl, q⟩, sl.trans (List.sublist_append_right _ _)⟩
        | some d' =>
          obtain ⟨v', e', rd⟩ := ro
          cases e'
          exact ⟨A ++ F', ⟨v, vs', A, F', rfl, rfl, rd, q⟩, (List.Sublist.refl A).append sl⟩
end
theorem final_len : ∀ {κ : List Bool} {ds : List D} {ε : Ep}, ds.length ≤ ε.length → (finalL κ ds ε).length = ds.length
  | [], [], _, _ => rfl
  | true :: _, [], _, _ => rfl
  | false :: _, [], _, _ => rfl
  | [], d :: ds, od :: ε, h => by simp only [finalL, List.length_cons]; rw [final_len (κ := []) (by simpa using h)]
  | true :: κ, d :: ds, od :: ε, h => by simp only [finalL, List.length_cons]; rw [final_len (κ := κ) (by simpa using h)]
  | false :: κ, d :: ds, od :: ε, h => by simp only [finalL, List.length_cons]; rw [final_len (κ := κ) (by simpa using h)]
  | _, _ :: _, [], h => by simp at h
/-- a body's end: the answer is held, the slots go -/
theorem SI.leave {K : PySem.W.Frag} {H G : Hp} {F : List Addr} {ds : List D} {vs : List V} {κ : List Bool} {σ : L2.St} {H' : Hp} {ε : Ep} {r : D} {v : V} (J : SIx K (callB H G F) G [] F [] H [] ds vs)
    (I : SI K { callB H G F with kv := keptV κ vs } σ H' ε [r] [v]) (hl : ds.length ≤ ε.length) : SI K (callB H G F) [] H' [] (finalL κ ds ε ++ [r]) (vs ++ [v]) := by
  obtain ⟨G', Fs, Ft, I⟩ := I
  obtain ⟨F', q, sl⟩ := final_rp (κ := κ) J.temps I.s0 I.slots (by rw [← J.lenT]; exact hl) I.kept
  have sb : (F' ++ Ft).Sublist (Fs ++ Ft) := sl.append (List.Sublist.refl _)
  exact ⟨G', [], F' ++ Ft, I.s0, I.sub, ⟨rfl, rfl⟩, q.append I.temps, by simpa using I.nd.sublist sb, fun a z => I.fr a (sb.subset (by simpa using z)), fun a z => I.own a (sb.subset (by simpa using z)), I.gn, I.keep, fun j u e => by simp [callB] at e⟩
section
variable {P : Program} {w : World} {K : PySem.W.Frag} {mg : Str → Option Value} {base : Heap} {x qual : Str} {params : Arguments} {body : List Stmt} {scope : Scope} {dvs : List V} {kws : List (Str × V)} {f : Addr} {fd : FuncData}
/-- the context of a def's body -/
abbrev bodyX (P : Program) (w : World) (K : PySem.W.Frag) (mg : Str → Option Value) (base : Heap) (N : List Str) (κ : List Bool) (qual : Str) (scope : Scope) (f : Addr) (cdv : Value) (A : Around) (outer : List Env) (s : Shared) (H : Hp) (E : XK) : Cv :=
  { cxOf (VL.CX P w) P w K mg base N qual scope f cdv A outer s H E with κ := κ }
/-- THE RULE: a def's body over trees -/
theorem fn_ok {N ps : List Str} {κ : List Bool} {k n : Nat} {vsp : VSp} {t : VTS} (F : FunD K x qual params body scope dvs kws f fd) (S : FnScope N ps scope) (hn : ps.length = n) (hN : n ≤ N.length)
    (hbody : ∀ (cdv : Value) (A : Around) (outer : List Env) (s : Shared) (H : Hp) (E : XK), Room k (A.deeper (envOfC qual scope s.heap.objs.size f cdv)) → VSs (bodyX P w K mg base N κ qual scope f cdv A outer s H E) body t)
    (hm : Mono vsp)
    (hsp : ∀ ds Q Ex, ds.length = n → vsp ds Q Ex → t { nx := fun ε => n ≤ ε.length ∧ Q .non (finalL κ ds ε), rt := fun r ε => n ≤ ε.length ∧ Q r (finalL κ ds ε), rx := fun cls row ε => n ≤ ε.length ∧ Ex cls row (finalL κ ds ε) } (startE N.length ds)) :
    FnOk P w K mg base (VL.CX P w) (k + 1) f fd ps (Lift K n vsp) := by
  refine F.ok S (fun vs H Q E h => by rw [h.len, hn]) fun cdv A outer s H vs Q E hr h => ?_
  obtain ⟨G, F0, ds, J, l, q⟩ := h
  obtain ⟨t', h1, h2⟩ := (hbody cdv A outer s H E hr).ex
  refine ⟨t' (fun cls d _ H => E cls d H), h1 _ (takes_of rfl rfl rfl rfl), ?_⟩
  have hv : vs.length = n := by rw [← J.lenT, l]
  have I0 : SI K { callB H G F0 with kv := keptV κ vs } (L2.start N vs) H (startE N.length ds) [] [] := by
    have hs : RpS K G H (startE N.length ds) (L2.start N vs) F0 := by
      unfold startE L2.start
      rw [J.lenT]
      exact RpS.start _ J.temps
    refine ⟨G, F0, [], Sub.refl, J.sub, hs, ⟨rfl, rfl⟩, by simpa using J.nd, fun a z => J.fr a (by simpa using z), fun a z => J.own a (by simpa using z), J.gn, J.keep, fun j v e => ?_⟩
    obtain ⟨_, e2⟩ := keptV_get e
    unfold L2.start
    have hj := (List.getElem?_eq_some_iff.mp e2).1
    rw [List.getElem?_append_left (by simpa using hj), List.getElem?_map, e2]
    rfl
  refine h2 ⟨_, fun i u e => (keptV_get e).1⟩ _ H _ [] [] _ _ _ I0 (hsp ds _ _ l q) ⟨fun σ H1 ε J1 z => ?_, fun σ H1 ε d v J1 z => ?_, fun _ _ _ _ z => z.elim, fun _ _ _ _ z => z.elim⟩ fun cls dd σ H1 ε row v J1 e n z => ?_
  · exact z.2 _ H1 (SI.leave J (J1.push (d := .non) (v := .non) fun _ => ⟨rfl, rfl⟩) (by rw [l]; exact z.1))
  · exact z.2 v H1 (SI.leave J J1 (by rw [l]; exact z.1))
  · exact z.2 dd v H1 (SI.leave J J1 (by rw [l]; exact z.1)) e n
end
end VL
/-! VL8: operators over trees. -/
namespace VL
open PySem PySem.Spec PyProof.Rows L2 VL
/-! ### data as the library's -/
mutual
def pd : D → PyData
  | .hole => .none
  | .val _ => .none
  | .non => .none
  | .bl b => .bool b
  | .int i => .int i
  | .str s => .str (toS s)
  | .ty _ => .none
  | .tup xs => .tuple (pdL xs)
  | .lst _ xs => .list (pdL xs)
  | .dK _ _ _ => .none
  | .dT _ _ _ => .none
  | .ins _ _ _ _ => .none
  | .pin _ _ => .none
  | .exn _ _ _ _ => .none
def pdL : List D → List PyData
  | [] => []
  | d :: ds => pd d :: pdL ds
end
mutual
/-- plain data, whose texts have good codes, nested to depth n at most -/
def okD : Nat → D → Bool
  | _, .non => true
  | _, .bl _ => true
  | _, .int _ => true
  | _, .str s => s.all fun c => decide (c < 1114112)
  | n + 1, .tup xs => okDL n xs
  | n + 1, .lst _ xs => okDL n xs
  | _, _ => false
def okDL : Nat → List D → Bool
  | _, [] => true
  | n, d :: ds => okD n d && okDL n ds
end
theorem okDL_all : ∀ (n : Nat) (ds : List D), okDL n ds = ds.all (okD n)
  | _, [] => by rw [okDL]; rfl
  | n, d :: ds => by rw [okDL, okDL_all n ds, List.all_cons]
mutual
theorem okD_shape : ∀ {n : Nat} {d : D}, okD n d = true → (pd d).canLay0 = true ∧ (pd d).depth ≤ n
  | n, .non, h => ⟨rfl, Nat.zero_le _⟩
  | n, .bl b, h => ⟨rfl, Nat.zero_le _⟩
  | n, .int i, h => ⟨rfl, Nat.zero_le _⟩
  | n, .str s, h => by
    refine ⟨?_, Nat.zero_le _⟩
    have h2 : (s.all fun c => decide (c < 1114112)) = true := by simpa [okD] using h
    show ((toS s).cps.all fun c => decide (c < 0x110000)) = true
    unfold toS
    simpa using h2
  | n + 1, .tup xs, h => by
    obtain ⟨h1, h2⟩ := okDL_shape (n := n) (ds := xs) (by simpa [okD] using h)
    exact ⟨h1, Nat.succ_le_succ h2⟩
  | n + 1, .lst m xs, h => by
    obtain ⟨h1, h2⟩ := okDL_shape (n := n) (ds := xs) (by simpa [okD] using h)
    exact ⟨h1, Nat.succ_le_succ h2⟩
  | 0, .tup xs, h => by simp [okD] at h
  | 0, .lst m xs, h => by simp [okD] at h
  | n, .hole, h => by simp [okD] at h
  | n, .val _, h => by simp [okD] at h
  | n, .ty _, h => by simp [okD] at h
  | n, .dK _ _ _, h => by simp [okD] at h
  | n, .dT _ _ _, h => by simp [okD] at h
  | n, .ins _ _ _ _, h => by simp [okD] at h
theorem okDL_shape : ∀ {n : Nat} {ds : List D}, okDL n ds = true → PyData.canLayAll0 (pdL ds) = true ∧ PyData.depthAll (pdL ds) ≤ n
  | n, [], _ => ⟨rfl, Nat.zero_le _⟩
  | n, d :: ds, h => by
    have h2 : (okD n d && okDL n ds) = true := by simpa [okDL] using h
    obtain ⟨h3, h4⟩ := Bool.and_eq_true_iff.mp h2
    obtain ⟨a1, a2⟩ := okD_shape h3
    obtain ⟨b1, b2⟩ := okDL_shape h4
    refine ⟨?_, ?_⟩
    · show ((pd d).canLay0 && PyData.canLayAll0 (pdL ds)) = true
      rw [a1, b1]; rfl
    · show max (pd d).depth (PyData.depthAll (pdL ds)) ≤ n
      omega
end
section
variable {K : PySem.W.Frag} {G H : Hp}
mutual
theorem Rp.dp (hs : Sub G H) : ∀ {n : Nat} {d : D} {v : V} {F : List Addr}, okD n d = true → Rp K G H d v F → Dp K H v (pd d)
  | _, .non, _, _, _, h => by rw [h.1]; exact .non
  | _, .bl b, _, _, _, h => by rw [h.1]; exact .bl b
  | _, .int i, _, _, _, h => by rw [h.1]; exact .int i
  | _, .str s, _, _, _, h => by rw [h.1]; exact .str _
  | n + 1, .tup xs, v, F, k, h => by
    obtain ⟨a, vs, rfl, s, r⟩ := h
    exact .tup (SqT.of (hs _ _ s)) (RpL.dp hs (n := n) (by simpa [okD] using k) r)
  | n + 1, .lst false xs, v, F, k, h => by
    obtain ⟨a, vs, rfl, s, _, r⟩ := h
    exact .lst (hs.sqL s) (RpL.dp hs (n := n) (by simpa [okD] using k) r)
  | n + 1, .lst true xs, v, F, k, h => by
    obtain ⟨a, vs, F', rfl, s, _, r⟩ := h
    exact .lst (SqL.of s) (RpL.dp hs (n := n) (by simpa [okD] using k) r)
  | 0, .tup xs, _, _, k, _ => by simp [okD] at k
  | 0, .lst m xs, _, _, k, _ => by simp [okD] at k
  | n, .hole, _, _, h, _ => by simp [okD] at h
  | n, .val _, _, _, h, _ => by simp [okD] at h
  | n, .ty _, _, _, h, _ => by simp [okD] at h
  | n, .dK _ _ _, _, _, h, _ => by simp [okD] at h
  | n, .dT _ _ _, _, _, h, _ => by simp [okD] at h
  | n, .ins _ _ _ _, _, _, h, _ => by simp [okD] at h
theorem RpL.dp (hs : Sub G H) : ∀ {n : Nat} {ds : List D} {vs : List V} {F : List Addr}, okDL n ds = true → RpL K G H ds vs F → DpAll K H vs (pdL ds)
  | _, [], _, _, _, h => by rw [h.1]; exact .nil
  | n, d :: ds, vs, F, k, h => by
    obtain ⟨v, vs', F1, F2, rfl, rfl, r, rs⟩ := h
    have h2 : (okD n d && okDL n ds) = true := by simpa [okDL] using k
    obtain ⟨h3, h4⟩ := Bool.and_eq_true_iff.mp h2
    exact .cons (Rp.dp hs h3 r) (RpL.dp hs h4 rs)
end
end
/-! ### equality -/
mutual
def deq : D → D → Bool
  | .non, .non => true
  | .bl a, .bl b => a == b
  | .bl a, .int j => (if a then 1 else 0) == j
  | .int i, .bl b => i == (if b then 1 else 0)
  | .int i, .int j => i == j
  | .str x, .str y => x == y
  | .lst _ xs, .lst _ ys => deqL xs ys
  | .tup xs, .tup ys => deqL xs ys
  | _, _ => false
def deqL : List D → List D → Bool
  | [], [] => true
  | x :: xs, y :: ys => deq x y && deqL xs ys
  | _, _ => false
end
theorem toS_beq (a b : Cs) : (toS a == toS b) = (a == b) := by
  rw [Bool.eq_iff_iff, beq_iff_eq, beq_iff_eq]
  exact ⟨toS_inj, fun e => by rw [e]⟩
mutual
theorem deq_pd : ∀ {n m : Nat} {x y : D}, okD n x = true → okD m y = true → PyData.eqv (pd x) (pd y) = deq x y
  | n, m, .non, y, hx, hy => by cases y <;> first | rfl | simp [okD] at hy
  | n, m, .bl a, y, hx, hy => by cases y <;> first | rfl | simp [okD] at hy
  | n, m, .int i, y, hx, hy => by cases y <;> first | rfl | simp [okD] at hy
  | n, m, .str s, y, hx, hy => by
    cases y <;> first | rfl | exact toS_beq _ _ | simp [okD] at hy
  | n + 1, m, .tup xs, y, hx, hy => by
    cases m with
    | zero => cases y <;> first | rfl | simp [okD] at hy
    | succ m =>
      cases y with
      | tup ys => exact deqL_pd (n := n) (m := m) (by simpa [okD] using hx) (by simpa [okD] using hy)
      | _ => first | rfl | simp [okD] at hy
  | n + 1, m, .lst q xs, y, hx, hy => by
    cases m with
    | zero => cases y <;> first | rfl | simp [okD] at hy
    | succ m =>
      cases y with
      | lst p ys => exact deqL_pd (n := n) (m := m) (by simpa [okD] using hx) (by simpa [okD] using hy)
      | _ => first | rfl | simp [okD] at hy
  | 0, m, .tup xs, y, hx, hy => by simp [okD] at hx
  | 0, m, .lst q xs, y, hx, hy => by simp [okD] at hx
  | n, m, .hole, y, hx, hy => by simp [okD] at hx
  | n, m, .val _, y, hx, hy => by simp [okD] at hx
  | n, m, .ty _, y, hx, hy => by simp [okD] at hx
  | n, m, .dK _ _ _, y, hx, hy => by simp [okD] at hx
  | n, m, .dT _ _ _, y, hx, hy => by simp [okD] at hx
  | n, m, .ins _ _ _ _, y, hx, hy => by simp [okD] at hx
theorem deqL_pd : ∀ {n m : Nat} {xs ys : List D}, okDL n xs = true → okDL m ys = true → PyData.eqvAll (pdL xs) (pdL ys) = deqL xs ys
  | n, m, [], [], _, _ => rfl
  | n, m, [], y :: ys, _, _ => rfl
  | n, m, x :: xs, [], _, _ => rfl
  | n, m, x :: xs, y :: ys, hx, hy => by
    obtain ⟨a1, a2⟩ := Bool.and_eq_true_iff.mp (show (okD n x && okDL n xs) = true by simpa [okDL] using hx)
    obtain ⟨b1, b2⟩ := Bool.and_eq_true_iff.mp (show (okD m y && okDL m ys) = true by simpa [okDL] using hy)
    show (PyData.eqv (pd x) (pd y) && PyData.eqvAll (pdL xs) (pdL ys)) = (deq x y && deqL xs ys)
    rw [deq_pd a1 b1, deqL_pd a2 b2]
end
/-- the pairs of plain values that == tells apart as values -/
def scalD : D → D → Bool
  | .non, .non => true | .non, .int _ => true | .int _, .non => true | .non, .bl _ => true | .bl _, .non => true | .non, .str _ => true | .str _, .non => true
  | .int _, .int _ => true | .bl _, .bl _ => true | .str _, .str _ => true
  | .int _, .str _ => true | .str _, .int _ => true | .bl _, .str _ => true | .str _, .bl _ => true
  | _, _ => false
theorem decV_int {i j : Int} : decide (V.int i = V.int j) = (i == j) := dec_int
theorem Rp.scal {K : PySem.W.Frag} {G H : Hp} {x y : D} {v w : V} {F1 F2 : List Addr} (h : scalD x y = true) (rx : Rp K G H x v F1) (ry : Rp K G H y w F2) : L2.scal v w = true ∧ decide (v = w) = deq x y := by
  cases x <;> cases y <;> first
    | (exfalso; revert h; simp [scalD]; done)
    | (obtain ⟨rfl, _⟩ := rx
       obtain ⟨rfl, _⟩ := ry
       refine ⟨rfl, ?_⟩
       first
         | rfl
         | exact decide_eq_false (fun z => nomatch z)
         | exact dec_int
         | exact dec_bl
         | exact dec_str.trans (toS_beq _ _))
/-- == and != of trees -/
def sEq : List D → (D → Prop) → Prop := fun ds Q => ∃ x y, ds = [x, y] ∧ (scalD x y = true ∨ (okD 64 x = true ∧ okD 64 y = true)) ∧ Q (.bl (deq x y))
def sNe : List D → (D → Prop) → Prop := fun ds Q => ∃ x y, ds = [x, y] ∧ (scalD x y = true ∨ (okD 64 x = true ∧ okD 64 y = true)) ∧ Q (.bl (!deq x y))
theorem RpL.two {K : PySem.W.Frag} {G H : Hp} {x y : D} {vs : List V} {F : List Addr} (h : RpL K G H [x, y] vs F) : ∃ v w F1 F2, vs = [v, w] ∧ Rp K G H x v F1 ∧ Rp K G H y w F2 := by
  obtain ⟨v, vs', F1, F2, rfl, rfl, r, w, vs2, F3, F4, rfl, rfl, r2, rfl, rfl⟩ := h
  exact ⟨v, w, F1, F3, rfl, r, r2⟩
theorem RpL.three {K : PySem.W.Frag} {G H : Hp} {x y z : D} {vs : List V} {F : List Addr} (h : RpL K G H [x, y, z] vs F) : ∃ v w u F1 F2 F3, vs = [v, w, u] ∧ Rp K G H x v F1 ∧ Rp K G H y w F2 ∧ Rp K G H z u F3 := by
  obtain ⟨v, vs', F1, F2, rfl, rfl, r, w, vs2, F3, F4, rfl, rfl, r2, u, vs3, F5, F6, rfl, rfl, r3, rfl, rfl⟩ := h
  exact ⟨v, w, u, F1, F3, F5, rfl, r, r2, r3⟩
theorem RpL.one' {K : PySem.W.Frag} {G H : Hp} {x : D} {vs : List V} {F : List Addr} (h : RpL K G H [x] vs F) : ∃ v, vs = [v] ∧ Rp K G H x v F := by
  obtain ⟨v, vs', F1, F2, rfl, rfl, r, rfl, rfl⟩ := h
  exact ⟨v, rfl, by rw [List.append_nil]; exact r⟩
theorem shp {d : D} (h : okD 64 d = true) : SeqAt.shaped (pd d) = true := by
  obtain ⟨a, b⟩ := okD_shape h
  unfold SeqAt.shaped
  rw [a, decide_eq_true b]
  rfl
theorem opn_eq {K : PySem.W.Frag} : OpN K (r2N fun x y H Q => rEq x y H Q ∨ rEqD K x y H Q) sEq := OpN.pure fun G H ds vs F Q Q' hs r h k => by
  obtain ⟨x, y, rfl, h1, q⟩ := h
  obtain ⟨v, w, F1, F2, rfl, rx, ry⟩ := r.two
  refine ⟨v, w, rfl, ?_⟩
  rcases h1 with h1 | ⟨h1, h2⟩
  · obtain ⟨e1, e2⟩ := Rp.scal h1 rx ry
    exact .inl ⟨e1, by rw [e2]; exact k (.bl (deq x y)) _ (fun _ _ _ => ⟨rfl, rfl⟩) q⟩
  · refine .inr ⟨pd x, pd y, rx.dp hs h1, ry.dp hs h2, shp h1, shp h2, ?_⟩
    rw [deq_pd h1 h2]
    exact k (.bl (deq x y)) _ (fun _ _ _ => ⟨rfl, rfl⟩) q
theorem opn_ne {K : PySem.W.Frag} : OpN K (r2N fun x y H Q => rNe x y H Q ∨ rNeD K x y H Q) sNe := OpN.pure fun G H ds vs F Q Q' hs r h k => by
  obtain ⟨x, y, rfl, h1, q⟩ := h
  obtain ⟨v, w, F1, F2, rfl, rx, ry⟩ := r.two
  refine ⟨v, w, rfl, ?_⟩
  rcases h1 with h1 | ⟨h1, h2⟩
  · obtain ⟨e1, e2⟩ := Rp.scal h1 rx ry
    exact .inl ⟨e1, by rw [e2]; exact k (.bl (!deq x y)) _ (fun _ _ _ => ⟨rfl, rfl⟩) q⟩
  · refine .inr ⟨pd x, pd y, rx.dp hs h1, ry.dp hs h2, shp h1, shp h2, ?_⟩
    rw [deq_pd h1 h2]
    exact k (.bl (!deq x y)) _ (fun _ _ _ => ⟨rfl, rfl⟩) q
theorem opr_eq {X : Cx} {k : Nat} (hr : Room k X.A) : OpR X (compareOp .Eq) (fun x y H Q => rEq x y H Q ∨ rEqD X.K x y H Q) := OpR.or op_eq (op_eqD hr.units)
theorem opr_ne {X : Cx} {k : Nat} (hr : Room k X.A) : OpR X (compareOp .NotEq) (fun x y H Q => rNe x y H Q ∨ rNeD X.K x y H Q) := OpR.or op_ne (op_neD hr.units)
/-! ### order, is -/
def sI2 (f : Int → Int → D) : List D → (D → Prop) → Prop := fun ds Q => ∃ i j, ds = [.int i, .int j] ∧ Q (f i j)
theorem opn_i2 {K : PySem.W.Frag} {f : Int → Int → D} {g : Int → Int → V} (h : ∀ i j G H, Rp K G H (f i j) (g i j) []) : OpN K (r2N (rI0 g)) (sI2 f) := OpN.pure fun G H ds vs F Q Q' hs r q k => by
  obtain ⟨i, j, rfl, q⟩ := q
  obtain ⟨v, w, F1, F2, rfl, ⟨rfl, _⟩, ⟨rfl, _⟩⟩ := r.two
  exact ⟨_, _, rfl, i, j, rfl, rfl, k _ _ (fun G' H' _ => h i j G' H') q⟩
def sI2c (c : Int → Int → Prop) (f : Int → Int → D) : List D → (D → Prop) → Prop := fun ds Q => ∃ i j, ds = [.int i, .int j] ∧ c i j ∧ Q (f i j)
theorem opn_i2c {K : PySem.W.Frag} {c c' : Int → Int → Prop} {f : Int → Int → D} {g : Int → Int → V} (hc : ∀ i j, c i j → c' i j) (h : ∀ i j G H, c i j → Rp K G H (f i j) (g i j) []) : OpN K (r2N (rI c' g)) (sI2c c f) := OpN.pure fun G H ds vs F Q Q' hs r q k => by
  obtain ⟨i, j, rfl, hz, q⟩ := q
  obtain ⟨v, w, F1, F2, rfl, ⟨rfl, _⟩, ⟨rfl, _⟩⟩ := r.two
  exact ⟨_, _, rfl, i, j, rfl, rfl, hc _ _ hz, k _ _ (fun G' H' _ => h i j G' H' hz) q⟩
theorem opn_lt {K : PySem.W.Frag} : OpN K (r2N (rI0 fun i j => .bl (decide (i < j)))) (sI2 fun i j => .bl (decide (i < j))) := opn_i2 fun _ _ _ _ => ⟨rfl, rfl⟩
theorem opn_le {K : PySem.W.Frag} : OpN K (r2N (rI0 fun i j => .bl (decide (i ≤ j)))) (sI2 fun i j => .bl (decide (i ≤ j))) := opn_i2 fun _ _ _ _ => ⟨rfl, rfl⟩
theorem opn_gt {K : PySem.W.Frag} : OpN K (r2N (rI0 fun i j => .bl (decide (j < i)))) (sI2 fun i j => .bl (decide (j < i))) := opn_i2 fun _ _ _ _ => ⟨rfl, rfl⟩
theorem opn_ge {K : PySem.W.Frag} : OpN K (r2N (rI0 fun i j => .bl (decide (j ≤ i)))) (sI2 fun i j => .bl (decide (j ≤ i))) := opn_i2 fun _ _ _ _ => ⟨rfl, rfl⟩
theorem opn_sub {K : PySem.W.Frag} : OpN K (r2N (rI0 fun i j => .int (i - j))) (sI2 fun i j => .int (i - j)) := opn_i2 fun _ _ _ _ => ⟨rfl, rfl⟩
theorem opn_and {K : PySem.W.Frag} : OpN K (r2N (rI0 fun i j => .int (Builtin.bitAnd i j))) (sI2 fun i j => .int (Builtin.bitAnd i j)) := opn_i2 fun _ _ _ _ => ⟨rfl, rfl⟩
theorem opn_xor {K : PySem.W.Frag} : OpN K (r2N (rI0 fun i j => .int (Builtin.bitXor i j))) (sI2 fun i j => .int (Builtin.bitXor i j)) := opn_i2 fun _ _ _ _ => ⟨rfl, rfl⟩
/-- % and // : by a number above 0 as Lean's own -/
def pmod (i j : Int) : Int := if 0 < j then i % j else i.fmod j
def pdiv (i j : Int) : Int := if 0 < j then i / j else i.fdiv j
theorem pmod_eq (i j : Int) : i.fmod j = pmod i j := by
  unfold pmod
  split
  · rw [Int.fmod_eq_emod_of_nonneg i (by omega)]
  · rfl
theorem pdiv_eq (i j : Int) : i.fdiv j = pdiv i j := by
  unfold pdiv
  split
  · rw [Int.fdiv_eq_ediv_of_nonneg i (by omega)]
  · rfl
theorem opn_mod {K : PySem.W.Frag} : OpN K (r2N (rI (fun _ j => j ≠ 0) fun i j => .int (i.fmod j))) (sI2c (fun _ j => j ≠ 0) fun i j => .int (pmod i j)) := opn_i2c (fun _ _ h => h) fun i j _ _ _ => ⟨by rw [pmod_eq], rfl⟩
/-- a divisor that is not 0, of less than 9,000 bits -/
def CDv (_ j : Int) : Prop := j ≠ 0 ∧ j.natAbs.log2 < 9000
theorem opr_div {X : Cx} : OpR X (binaryOp .FloorDiv) (rI CDv fun i j => .int (i.fdiv j)) := opI fun i j _ _ _ _ _ hc q => floordiv_int hc.1 q (.inl (PyProof.noPylong_of_log2 hc.2))
theorem opn_div {K : PySem.W.Frag} : OpN K (r2N (rI CDv fun i j => .int (i.fdiv j))) (sI2c CDv fun i j => .int (pdiv i j)) := opn_i2c (fun _ _ h => h) fun i j _ _ _ => ⟨by rw [pdiv_eq], rfl⟩
/-- a product: one factor below 2 ^ 64, or both below 2 ^ 60,000,000 -/
def CMl (i j : Int) : Prop := (i.natAbs < 2 ^ 64 ∨ j.natAbs < 2 ^ 64) ∨ CMulX i j
theorem ib64 {i : Int} (h : i.natAbs < 2 ^ 64) : Builtin.Int.intBits i ≤ 64 := PyProof.Rows.intBits_le h
theorem opr_mul {X : Cx} : OpR X (binaryOp .Mult) (rI CMl fun i j => .int (i * j)) := opI fun i j _ _ _ _ _ hc q => by
  refine mul_int q ?_
  rcases hc with (h | h) | h
  · exact IntMulOk.of_left (ib64 h)
  · exact IntMulOk.of_right (ib64 h)
  · exact h.ok
theorem opn_pow {K : PySem.W.Frag} : OpN K (r2N (rI CPow fun i j => .int (i ^ j.toNat))) (sI2c CPow fun i j => .int (i ^ j.toNat)) := opn_i2c (fun _ _ h => h) fun _ _ _ _ _ => ⟨rfl, rfl⟩
/-- a is None, a is not None -/
def isNon : D → Bool
  | .non => true
  | .val v => decide (v = .non)
  | .pin v _ => decide (v = .non)
  | _ => false
def sIsN : List D → (D → Prop) → Prop := fun ds Q => ∃ x, ds = [x, .non] ∧ x ≠ .hole ∧ Q (.bl (isNon x))
def sNotN : List D → (D → Prop) → Prop := fun ds Q => ∃ x, ds = [x, .non] ∧ x ≠ .hole ∧ Q (.bl (!isNon x))
theorem Rp.isNon {K : PySem.W.Frag} {G H : Hp} {x : D} {v : V} {F : List Addr} (h : x ≠ .hole) (r : Rp K G H x v F) : decide (v = .non) = VL.isNon x := by
  cases x with
  | hole => exact absurd rfl h
  | val u => obtain ⟨rfl, _⟩ := r; rfl
  | non => obtain ⟨rfl, _⟩ := r; rfl
  | bl b => obtain ⟨rfl, _⟩ := r; rfl
  | int b => obtain ⟨rfl, _⟩ := r; rfl
  | str b => obtain ⟨rfl, _⟩ := r; rfl
  | ty b => obtain ⟨rfl, _⟩ := r; rfl
  | tup xs => obtain ⟨a, vs, rfl, _⟩ := r; rfl
  | lst m xs => cases m <;> obtain ⟨a, vs, _⟩ := r <;> simp_all [VL.isNon]
  | dK m ks xs => cases m <;> obtain ⟨a, vs, _⟩ := r <;> simp_all [VL.isNon]
  | dT m ks xs => cases m <;> obtain ⟨a, vs, _⟩ := r <;> simp_all [VL.isNon]
  | ins m C fs xs => cases m <;> obtain ⟨a, dx, vs, _⟩ := r <;> simp_all [VL.isNon]
  | pin u d => obtain ⟨rfl, _⟩ := r; rfl
  | exn a dd c row => obtain ⟨rfl, _⟩ := r; rfl
theorem opn_isN {K : PySem.W.Frag} : OpN K (r2N fun x y H Q => y = .non ∧ Q (.bl (decide (x = .non))) H) sIsN := OpN.pure fun G H ds vs F Q Q' hs r q k => by
  obtain ⟨x, rfl, hx, q⟩ := q
  obtain ⟨v, w, F1, F2, rfl, rx, ⟨rfl, _⟩⟩ := r.two
  exact ⟨_, _, rfl, rfl, by rw [rx.isNon hx]; exact k (.bl (isNon x)) _ (fun _ _ _ => ⟨rfl, rfl⟩) q⟩
theorem opn_notN {K : PySem.W.Frag} : OpN K (r2N fun x y H Q => y = .non ∧ Q (.bl (!decide (x = .non))) H) sNotN := OpN.pure fun G H ds vs F Q Q' hs r q k => by
  obtain ⟨x, rfl, hx, q⟩ := q
  obtain ⟨v, w, F1, F2, rfl, rx, ⟨rfl, _⟩⟩ := r.two
  exact ⟨_, _, rfl, rfl, by rw [rx.isNon hx]; exact k (.bl (!isNon x)) _ (fun _ _ _ => ⟨rfl, rfl⟩) q⟩
end VL
/-! VL9: expressions that change nothing; places within a slot's tree; what is stored there. -/
namespace VL
open PySem PySem.Spec PyProof.Rows L2 VL
/-! ### places -/
inductive Stp where
  | ix (j : Nat)
  | fd (f : Cs)
deriving DecidableEq
def fdIx (fs : List Cs) (f : Cs) : Option Nat := fs.idxOf? f
/-- the node at a place, through nodes that are ours -/
def getP : D → List Stp → Option D
  | d, [] => some d
  | .lst true ds, .ix j :: p => match ds[j]? with | some d => getP d p | none => none
  | .ins true _ fs ds, .fd f :: p => match fdIx fs f with
    | some j => (match ds[j]? with | some d => getP d p | none => none)
    | none => none
  | _, _ => none
def setP : D → List Stp → D → D
  | _, [], e => e
  | .lst true ds, .ix j :: p, e => match ds[j]? with | some d => .lst true (ds.set j (setP d p e)) | none => .lst true ds
  | .ins true C fs ds, .fd f :: p, e => match fdIx fs f with
    | some j => (match ds[j]? with | some d => .ins true C fs (ds.set j (setP d p e)) | none => .ins true C fs ds)
    | none => .ins true C fs ds
  | d, _, _ => d
theorem fzip_look : ∀ {fs : List Cs} {vs : List V} {f : Cs} {j : Nat} {v : V}, fdIx fs f = some j → vs[j]? = some v → fs.length = vs.length → (fzip fs vs).lookup (toS f) = some v
  | [], vs, f, j, v, h, _, _ => by simp [fdIx] at h
  | g :: fs, [], f, j, v, _, _, hl => by simp at hl
  | g :: fs, w :: vs, f, j, v, h, hv, hl => by
    unfold fdIx at h
    rw [List.idxOf?_cons] at h
    show ((toS g, w) :: fzip fs vs).lookup (toS f) = some v
    by_cases e : g = f
    · subst e
      simp at h
      subst h
      simp at hv
      subst hv
      simp [List.lookup]
    · have e1 : (g == f) = false := by simpa using e
      rw [e1] at h
      simp at h
      obtain ⟨k, hk, rfl⟩ := h
      have e2 : (toS f == toS g) = false := by
        rw [beq_eq_false_iff_ne]
        intro z
        exact e (toS_inj z.symm)
      simp only [List.lookup, e2]
      exact fzip_look (fs := fs) hk (by simpa using hv) (by simpa using hl)
section
variable {K : PySem.W.Frag}
/-- at v0, along p, one comes to v -/
inductive AtP (H : Hp) : D → V → List Stp → V → Prop where
  | nil {d v} : AtP H d v [] v
  | lst {ds d a vs j p w v} : H a = some (.lst vs) → ds[j]? = some d → ds.length = vs.length → vs[j]? = some w → AtP H d w p v → AtP H (.lst true ds) (.ref a) (.ix j :: p) v
  | ins {C C' fs ds d a dx vs j f p w v} : H a = some (.ins C' dx (fzip fs vs)) → fdIx fs f = some j → ds[j]? = some d → fs.length = vs.length → vs[j]? = some w → AtP H d w p v → AtP H (.ins true C fs ds) (.ref a) (.fd f :: p) v
theorem AtP.grow {H H' : Hp} (h : Sub H H') {d v p u} (a : AtP H d v p u) : AtP H' d v p u := by
  induction a with
  | nil => exact .nil
  | lst e1 e2 e3 e4 _ ih => exact .lst (h _ _ e1) e2 e3 e4 ih
  | ins e1 e2 e3 e4 e5 _ ih => exact .ins (h _ _ e1) e2 e3 e4 e5 ih
theorem fzip_inj : ∀ {fs : List Cs} {vs ws : List V}, fs.length = vs.length → fs.length = ws.length → fzip fs vs = fzip fs ws → vs = ws
  | [], [], [], _, _, _ => rfl
  | f :: fs, v :: vs, w :: ws, h1, h2, e => by
    have e2 : (toS f, v) :: fzip fs vs = (toS f, w) :: fzip fs ws := e
    obtain ⟨a, c⟩ := List.cons.inj e2
    rw [(Prod.mk.inj a).2, fzip_inj (Nat.succ.inj h1) (Nat.succ.inj h2) c]
  | [], _ :: _, _, h1, _, _ => by cases h1
  | [], [], _ :: _, _, h2, _ => by cases h2
  | _ :: _, [], _, h1, _, _ => by cases h1
  | _ :: _, _ :: _, [], _, h2, _ => by cases h2
theorem AtP.uniq {H : Hp} : ∀ {p : List Stp} {d v u u'}, AtP H d v p u → AtP H d v p u' → u = u'
  | [], _, _, _, _, .nil, .nil => rfl
  | .ix j :: p, _, _, u, u', .lst a1 a2 a3 a4 a5, .lst b1 b2 b3 b4 b5 => by
    rw [a1] at b1
    cases b1
    rw [a4] at b4
    cases b4
    rw [a2] at b2
    cases b2
    exact a5.uniq b5
  | .fd f :: p, _, _, u, u', .ins a1 a2 a3 a4 a5 a6, .ins b1 b2 b3 b4 b5 b6 => by
    rw [a1] at b1
    have e := HO.ins.inj (Option.some.inj b1)
    have ev := fzip_inj a4 b4 e.2.2
    subst ev
    rw [a2] at b2
    cases b2
    rw [a5] at b5
    cases b5
    rw [a3] at b3
    cases b3
    exact a6.uniq b6
/-- a place within a tree: what stands there, and what stands in its stead -/
theorem Rp.focusP {G H : Hp} : ∀ {p : List Stp} {d0 : D} {v0 : V} {F : List Addr} {d : D}, Rp K G H d0 v0 F → getP d0 p = some d →
    ∃ v A B C, F = A ++ B ++ C ∧ Rp K G H d v B ∧ AtP H d0 v0 p v ∧ ∀ (G' H' : Hp) (d' : D) (B' : List Addr), Sub G G' → (∀ a ∈ A ++ C, H' a = H a) → (B ≠ [] ∨ B' = []) → Rp K G' H' d' v B' → Rp K G' H' (setP d0 p d') v0 (A ++ B' ++ C)
  | [], d0, v0, F, d, h, e => by
    have e : some d0 = some d := by cases d0 <;> exact e
    cases e
    refine ⟨v0, [], F, [], by simp, h, .nil, fun G' H' d' B' _ _ _ r => ?_⟩
    have : setP d0 [] d' = d' := by cases d0 <;> rfl
    rw [this]
    simpa using r
  | .ix j :: p, .lst true ds, v0, F, d, h, e => by
    obtain ⟨a, vs, F', rfl, s, rfl, r⟩ := h
    have e : (match ds[j]? with | some d => getP d p | none => none) = some d := e
    cases hj : ds[j]? with
    | none => rw [hj] at e; cases e
    | some c =>
      rw [hj] at e
      obtain ⟨w, A, B, C, hw, rfl, rw_, back⟩ := r.focus hj
      obtain ⟨v, A2, B2, C2, rfl, rv, at_, back2⟩ := Rp.focusP rw_ e
      refine ⟨v, a :: A ++ A2, B2, C2 ++ C, by simp only [List.append_assoc, List.cons_append], rv, .lst s hj r.len hw at_, fun G' H' d' B' g k z r' => ?_⟩
      have q := back2 G' H' d' B' g (fun a z => k a (by simp only [List.mem_append, List.mem_cons] at z ⊢; grind)) z r'
      have q2 := back G' H' _ w _ g (fun a z => k a (by simp only [List.mem_append, List.mem_cons] at z ⊢; grind)) q
      show Rp K G' H' (match ds[j]? with | some d => .lst true (ds.set j (setP d p d')) | none => .lst true ds) _ _
      rw [hj]
      rw [setSelf hw] at q2
      exact ⟨a, vs, A ++ (A2 ++ B' ++ C2) ++ C, rfl, (k a (by simp)).trans s, by simp only [List.append_assoc, List.cons_append], q2⟩
  | .fd f :: p, .ins true C0 fs ds, v0, F, d, h, e => by
    obtain ⟨a, dx, vs, F', rfl, s, rfl, l, r⟩ := h
    have e : (match fdIx fs f with | some j => (match ds[j]? with | some d => getP d p | none => none) | none => none) = some d := e
    cases hf : fdIx fs f with
    | none => rw [hf] at e; cases e
    | some j =>
      rw [hf] at e
      have e : (match ds[j]? with | some d => getP d p | none => none) = some d := e
      cases hj : ds[j]? with
      | none => rw [hj] at e; cases e
      | some c =>
        rw [hj] at e
        obtain ⟨w, A, B, C, hw, rfl, rw_, back⟩ := r.focus hj
        obtain ⟨v, A2, B2, C2, rfl, rv, at_, back2⟩ := Rp.focusP rw_ e
        refine ⟨v, a :: A ++ A2, B2, C2 ++ C, by simp only [List.append_assoc, List.cons_append], rv, .ins s hf hj (l.trans r.len) hw at_, fun G' H' d' B' g k z r' => ?_⟩
        have q := back2 G' H' d' B' g (fun a z => k a (by simp only [List.mem_append, List.mem_cons] at z ⊢; grind)) z r'
        have q2 := back G' H' _ w _ g (fun a z => k a (by simp only [List.mem_append, List.mem_cons] at z ⊢; grind)) q
        show Rp K G' H' (match fdIx fs f with | some j => (match ds[j]? with | some d => .ins true C0 fs (ds.set j (setP d p d')) | none => .ins true C0 fs ds) | none => .ins true C0 fs ds) _ _
        rw [hf]
        show Rp K G' H' (match ds[j]? with | some d => .ins true C0 fs (ds.set j (setP d p d')) | none => .ins true C0 fs ds) _ _
        rw [hj]
        rw [setSelf hw] at q2
        exact ⟨a, dx, vs, A ++ (A2 ++ B' ++ C2) ++ C, rfl, (k a (by simp)).trans s, by simp only [List.append_assoc, List.cons_append], by simpa using l, q2⟩
  | s :: p, .tup ds, v0, F, d, h, e => by cases s <;> cases e
  | s :: p, .lst false ds, v0, F, d, h, e => by cases s <;> cases e
  | s :: p, .ins false C fs ds, v0, F, d, h, e => by cases s <;> cases e
  | .fd _ :: p, .lst true ds, v0, F, d, h, e => by cases e
  | .ix _ :: p, .ins true C fs ds, v0, F, d, h, e => by cases e
  | s :: p, .hole, v0, F, d, h, e => by cases s <;> cases e
  | s :: p, .val _, v0, F, d, h, e => by cases s <;> cases e
  | s :: p, .non, v0, F, d, h, e => by cases s <;> cases e
  | s :: p, .bl _, v0, F, d, h, e => by cases s <;> cases e
  | s :: p, .int _, v0, F, d, h, e => by cases s <;> cases e
  | s :: p, .str _, v0, F, d, h, e => by cases s <;> cases e
  | s :: p, .ty _, v0, F, d, h, e => by cases s <;> cases e
  | s :: p, .pin _ _, v0, F, d, h, e => by cases s <;> cases e
  | s :: p, .exn _ _ _ _, v0, F, d, h, e => by cases s <;> cases e
  | s :: p, .dK _ _ _, v0, F, d, h, e => by cases s <;> cases e
  | s :: p, .dT _ _ _, v0, F, d, h, e => by cases s <;> cases e
end
/-! ### a place in a slot -/
section
variable {K : PySem.W.Frag} {b : Bs} {σ : L2.St} {H : Hp} {ε : Ep} {T R : List D} {Tv Rv : List V}
/-- the node at a place of slot i, and what stands in its stead, made of it and of what is held last -/
theorem SI.focus (I : SI K b σ H ε (T ++ R) (Tv ++ Rv)) (hl : T.length = Tv.length) {i : Nat} {d0 d : D} {p : List Stp} (e : ε[i]? = some (some d0)) (g : getP d0 p = some d) :
    ∃ v0 v G B FR, σ[i]? = some (some v0) ∧ AtP H d0 v0 p v ∧ Sub G H ∧ Rp K G H d v B ∧ RpL K G H R Rv FR ∧ (B ++ FR).Nodup ∧ (∀ a ∈ B ++ FR, G a = none) ∧
      ∀ H' d' B' res w Fr, (∀ a, a ∉ B → H' a = H a) → Rp K G H' d' v B' → Rp K G H' res w Fr → (B ≠ [] ∨ B' = []) → (∃ L, (B' ++ (Fr ++ L)).Perm (B ++ FR)) → SI K b σ H' (ε.set i (some (setP d0 p d'))) (T ++ [res]) (Tv ++ [w]) := by
  obtain ⟨G, F, Ft, J⟩ := I
  obtain ⟨F1, FR, rfl, r1, r2⟩ := J.temps.split2 hl
  obtain ⟨ov, A0, B0, C0, hs, rfl, ro, back⟩ := J.slots.focus e
  obtain ⟨v0, rfl, r0⟩ := ro
  obtain ⟨v, A, B, C, rfl, rv, at_, back2⟩ := r0.focusP g
  have pm : (A0 ++ (A ++ B ++ C) ++ C0 ++ (F1 ++ FR)).Perm ((A0 ++ A ++ C ++ C0 ++ F1) ++ (B ++ FR)) := by
    apply List.perm_iff_count.mpr
    intro a
    simp only [List.count_append]
    omega
  have nd := pm.nodup_iff.mp J.nd
  obtain ⟨nd1, nd2, dj⟩ := List.nodup_append.mp nd
  have mem : ∀ a, a ∈ (A0 ++ A ++ C ++ C0 ++ F1) ++ (B ++ FR) → a ∈ A0 ++ (A ++ B ++ C) ++ C0 ++ (F1 ++ FR) := fun a z => pm.mem_iff.mpr z
  refine ⟨v0, v, G, B, FR, hs, at_, J.sub, rv, r2, nd2, fun a z => J.fr a (mem a (List.mem_append_right _ z)), fun H' d' B' res w Fr kp rd rres z sp => ?_⟩
  have out : ∀ a ∈ A0 ++ A ++ C ++ C0 ++ F1, H' a = H a := fun a z => kp a fun hb => dj a z a (List.mem_append_left _ hb) rfl
  have sH : Sub G H' := fun a o q => by
    have : a ∉ B := fun hb => by
      rw [J.fr a (mem a (List.mem_append_right _ (List.mem_append_left _ hb)))] at q
      cases q
    rw [kp a this]
    exact J.sub a o q
  have q1 := back2 G H' d' B' Sub.refl (fun a z => out a (by simp only [List.mem_append] at z ⊢; grind)) z rd
  have q2 := back G H' (some (setP d0 p d')) (some v0) (A ++ B' ++ C) Sub.refl (fun a z => out a (by simp only [List.mem_append] at z ⊢; grind)) ⟨v0, rfl, q1⟩
  rw [setSelf hs] at q2
  obtain ⟨L, sp⟩ := sp
  have pm2 : ((A0 ++ (A ++ B' ++ C) ++ C0 ++ (F1 ++ Fr)) ++ L).Perm (A0 ++ (A ++ B ++ C) ++ C0 ++ (F1 ++ FR)) := by
    apply List.perm_iff_count.mpr
    intro a
    have := sp.count_eq a
    simp only [List.count_append] at this ⊢
    omega
  have sb : ∀ a, a ∈ A0 ++ (A ++ B' ++ C) ++ C0 ++ (F1 ++ Fr) → a ∈ A0 ++ (A ++ B ++ C) ++ C0 ++ (F1 ++ FR) := fun a z => pm2.mem_iff.mp (List.mem_append_left _ z)
  refine ⟨G, A0 ++ (A ++ B' ++ C) ++ C0, F1 ++ Fr, J.s0, sH, q2, (r1.mono Sub.refl fun a z => out a (List.mem_append_right _ z)).append (RpL.one.mpr rres), (List.nodup_append.mp (pm2.nodup_iff.mpr J.nd)).1, fun a z => J.fr a (sb a z), fun a z => J.own a (sb a z), J.gn, fun a o q n => ?_, J.kept⟩
  · have : a ∉ B := fun hb => by
      rcases J.own a (mem a (List.mem_append_right _ (List.mem_append_left _ hb))) with h | h
      · exact n h
      · rw [q] at h; cases h
    rw [kp a this]
    exact J.keep a o q n
end
end VL
/-! VL10: quiet expressions; what is done at a place: read, stored, appended, taken. -/
namespace VL
open PySem PySem.Spec PyProof.Rows L2 VL
/-! ### dicts by their keys -/
theorem kc_dec (a b : Kc) : decide (kc a = kc b) = decide (a = b) := by
  by_cases h : a = b
  · subst h; simp
  · rw [decide_eq_false h, decide_eq_false fun z => h (kc_inj z)]
/-- the place of a key -/
def kIx {α : Type} [DecidableEq α] : List α → α → Option Nat
  | [], _ => none
  | a :: ks, k => if a = k then some 0 else (kIx ks k).map (· + 1)
section
variable {κ : Type} [DecidableEq κ] {α : Type} [DecidableEq α] {f : α → κ}
theorem kIx_lt : ∀ {ks : List α} {k : α} {j : Nat}, kIx ks k = some j → j < ks.length
  | [], _, _, h => by cases h
  | a :: ks, k, j, h => by
    unfold kIx at h
    split at h
    · cases h; simp
    · cases e : kIx ks k with
      | none => rw [e] at h; cases h
      | some i =>
        rw [e] at h
        cases h
        have := kIx_lt e
        simp only [List.length_cons]
        omega
theorem map_zip_set (hf : ∀ a b, f a = f b → a = b) : ∀ {ks : List α} {vs : List V} {k : α} {y : V} {j : Nat}, ks.Nodup → ks.length = vs.length → kIx ks k = some j →
    ((ks.map f).zip vs).map (fun kv => if kv.1 = f k then (kv.1, y) else kv) = (ks.map f).zip (vs.set j y)
  | [], _, k, y, j, _, _, e => by cases e
  | _ :: _, [], k, y, j, _, h, _ => by cases h
  | a :: ks, v :: vs, k, y, j, nd, h, e => by
    obtain ⟨n1, n2⟩ := List.nodup_cons.mp nd
    unfold kIx at e
    by_cases q : a = k
    · subst q
      rw [if_pos rfl] at e
      cases e
      simp only [List.map_cons, List.zip_cons_cons, if_true, List.set_cons_zero, List.cons.injEq, true_and]
      have : ∀ p ∈ (ks.map f).zip vs, (if p.1 = f a then (p.1, y) else p) = p := fun p hp => by
        have h1 := (List.of_mem_zip hp).1
        obtain ⟨b, hb, e2⟩ := List.mem_map.mp h1
        rw [if_neg]
        intro z
        rw [← e2] at z
        exact n1 (hf _ _ z ▸ hb)
      rw [List.map_congr_left this, List.map_id']
    · rw [if_neg q] at e
      cases e1 : kIx ks k with
      | none => rw [e1] at e; cases e
      | some i =>
        rw [e1] at e
        cases e
        simp only [List.map_cons, List.zip_cons_cons, List.set_cons_succ, List.cons.injEq]
        refine ⟨if_neg fun z => q (hf _ _ z), ?_⟩
        exact map_zip_set hf n2 (Nat.succ.inj h) e1
theorem valV_zip (hf : ∀ a b, f a = f b → a = b) : ∀ {ks : List α} {vs : List V} {k : α}, ks.length = vs.length → valV ((ks.map f).zip vs) (f k) = (kIx ks k).bind fun j => vs[j]?
  | [], [], _, _ => rfl
  | a :: ks, v :: vs, k, h => by
    unfold kIx
    show valV ((f a, v) :: (ks.map f).zip vs) (f k) = _
    by_cases e : a = k
    · subst e
      rw [valV_pos rfl, if_pos rfl]
      rfl
    · rw [valV_neg fun z => e (hf _ _ z), valV_zip hf (Nat.succ.inj h), if_neg e]
      cases kIx ks k <;> simp
  | [], _ :: _, _, h => by cases h
  | _ :: _, [], _, h => by cases h
theorem zip_any (hf : ∀ a b, f a = f b → a = b) {ks : List α} {vs : List V} {k : α} (h : ks.length = vs.length) : (((ks.map f).zip vs).any fun kv => decide (kv.1 = f k)) = (kIx ks k).isSome := by
  rw [valV_any, valV_zip hf h]
  cases e : kIx ks k with
  | none => rfl
  | some j =>
    have : j < vs.length := by
      rw [← h]
      exact kIx_lt e
    simp [this]
theorem putK_zip (hf : ∀ a b, f a = f b → a = b) : ∀ {ks : List α} {vs : List V} {k : α} {y : V}, ks.Nodup → ks.length = vs.length →
    putK ((ks.map f).zip vs) (f k) y = match kIx ks k with | some j => (ks.map f).zip (vs.set j y) | none => ((ks ++ [k]).map f).zip (vs ++ [y]) := by
  intro ks vs k y nd hl
  unfold putK
  rw [zip_any hf hl]
  cases e : kIx ks k with
  | none =>
    simp only [Option.isSome_none, Bool.false_eq_true, if_false]
    rw [List.map_append, List.zip_append (by simpa using hl)]
    rfl
  | some j =>
    simp only [Option.isSome_some, if_true]
    exact map_zip_set hf nd hl e
end
def tkc (k : List Kc) : List Key := k.map kc
theorem tkc_inj : ∀ {a b : List Kc}, tkc a = tkc b → a = b
  | [], [], _ => rfl
  | x :: a, y :: b, h => by
    obtain ⟨h1, h2⟩ := List.cons.inj (show kc x :: tkc a = kc y :: tkc b from h)
    rw [kc_inj h1, tkc_inj h2]
  | [], _ :: _, h => by cases h
  | _ :: _, [], h => by cases h
theorem kzip_val {ks : List Kc} {vs : List V} {k : Kc} (h : ks.length = vs.length) : valV (kzip ks vs) (kc k) = (kIx ks k).bind fun j => vs[j]? := valV_zip (fun _ _ => kc_inj) h
theorem tzip_val {ks : List (List Kc)} {vs : List V} {k : List Kc} (h : ks.length = vs.length) : valV (tzip ks vs) (tkc k) = (kIx ks k).bind fun j => vs[j]? := valV_zip (f := tkc) (fun _ _ => tkc_inj) h
theorem kzip_put {ks : List Kc} {vs : List V} {k : Kc} {y : V} (nd : ks.Nodup) (h : ks.length = vs.length) : putK (kzip ks vs) (kc k) y = match kIx ks k with | some j => kzip ks (vs.set j y) | none => kzip (ks ++ [k]) (vs ++ [y]) := putK_zip (fun _ _ => kc_inj) nd h
theorem tzip_put {ks : List (List Kc)} {vs : List V} {k : List Kc} {y : V} (nd : ks.Nodup) (h : ks.length = vs.length) : putK (tzip ks vs) (tkc k) y = match kIx ks k with | some j => tzip ks (vs.set j y) | none => tzip (ks ++ [k]) (vs ++ [y]) := putK_zip (f := tkc) (fun _ _ => tkc_inj) nd h
/-- a tree as a key -/
def keyD : D → Option Kc
  | .int i => some (.inl i)
  | .str s => some (.inr s)
  | _ => none
def keyL : List D → Option (List Kc)
  | [] => some []
  | d :: ds => (keyD d).bind fun k => (keyL ds).map (k :: ·)
def keyT : D → Option (List Kc)
  | .tup ds => keyL ds
  | _ => none
section
variable {K : PySem.W.Frag} {G H : Hp}
theorem Rp.keyD {d : D} {v : V} {F : List Addr} {k : Kc} (r : Rp K G H d v F) (h : VL.keyD d = some k) : v = kV (kc k) ∧ F = [] := by
  cases d <;> simp only [VL.keyD, reduceCtorEq, Option.some.injEq] at h
  · subst h; exact r
  · subst h; exact r
theorem RpL.keyL : ∀ {ds : List D} {vs : List V} {F : List Addr} {ks : List Kc}, RpL K G H ds vs F → VL.keyL ds = some ks → vs = (tkc ks).map kV ∧ F = []
  | [], vs, F, ks, r, h => by
    obtain ⟨rfl, rfl⟩ := r
    cases h
    exact ⟨rfl, rfl⟩
  | d :: ds, vs, F, ks, r, h => by
    obtain ⟨v, vs', F1, F2, rfl, rfl, rd, rs⟩ := r
    have h : ((VL.keyD d).bind fun k => (VL.keyL ds).map (k :: ·)) = some ks := h
    cases e : VL.keyD d with
    | none => rw [e] at h; cases h
    | some k =>
      rw [e] at h
      cases e2 : VL.keyL ds with
      | none => rw [e2] at h; cases h
      | some ks' =>
        rw [e2] at h
        cases h
        obtain ⟨rfl, rfl⟩ := rd.keyD e
        obtain ⟨rfl, rfl⟩ := RpL.keyL rs e2
        exact ⟨rfl, rfl⟩
theorem Rp.keyT (hs : Sub G H) {d : D} {v : V} {F : List Addr} {k : List Kc} (r : Rp K G H d v F) (h : VL.keyT d = some k) : ∃ b, v = .ref b ∧ H b = some (.tup ((tkc k).map kV)) ∧ F = [] := by
  cases d with
  | tup ds =>
    obtain ⟨a, vs, rfl, s, rs⟩ := r
    obtain ⟨rfl, rfl⟩ := rs.keyL h
    exact ⟨a, rfl, hs _ _ s, rfl⟩
  | _ => cases h
end
/-- what a container holds under a key; behind a store -/
def getD : D → D → Option D
  | .lst _ ds, .int k => (ixN ds.length k).bind fun j => ds[j]?
  | .pin _ (.lst _ ds), .int k => (ixN ds.length k).bind fun j => ds[j]?
  | .tup ds, .int k => (ixN ds.length k).bind fun j => ds[j]?
  | .dK _ ks ds, k => (keyD k).bind fun k => (kIx ks k).bind fun j => ds[j]?
  | .dT _ ks ds, k => (keyT k).bind fun k => (kIx ks k).bind fun j => ds[j]?
  | _, _ => none
def putD : D → D → D → Option D
  | .lst true ds, .int k, y => (ixN ds.length k).map fun j => .lst true (ds.set j y)
  | .pin u (.lst true ds), .int k, y => (ixN ds.length k).map fun j => .pin u (.lst true (ds.set j y))
  | .dK true ks ds, k, y => if ds.length < 1000000 then (keyD k).map fun k => match kIx ks k with | some j => .dK true ks (ds.set j y) | none => .dK true (ks ++ [k]) (ds ++ [y]) else none
  | .dT true ks ds, k, y => if ds.length < 1000000 then (keyT k).map fun k => match kIx ks k with | some j => .dT true ks (ds.set j y) | none => .dT true (ks ++ [k]) (ds ++ [y]) else none
  | _, _, _ => none
/-! ### quiet expressions: what stood stands -/
section
variable {X : Cv}
structure VQ (X : Cv) (e : Expr) (t : VTE) : Prop where
  ex : ∃ t' : WX → TE, (∀ W, Takes X.toCx W → PE X.toCx e (t' W)) ∧ ∀ (b : Bx X) σ H ε T Tv W N (Q : D → Ep → Prop) (Q' : VK), SI X.K b.1 σ H ε T Tv → t N ε Q →
    (∀ d v ε' H', Sub H H' → SI X.K b.1 σ H' ε' (T ++ [d]) (Tv ++ [v]) → Q d ε' → Q' v H') → XL X.K b.1 T Tv W N → t' W σ H Q'
structure VAQ (X : Cv) (es : List Expr) (t : VTA) : Prop where
  ex : ∃ t' : WX → TA, (∀ W, Takes X.toCx W → PA X.toCx es (t' W)) ∧ ∀ (b : Bx X) σ H ε T Tv W N (Q : List D → Ep → Prop) (Q' : List V → Hp → Prop), SI X.K b.1 σ H ε T Tv → t N ε Q →
    (∀ ds vs ε' H', Sub H H' → SI X.K b.1 σ H' ε' (T ++ ds) (Tv ++ vs) → ds.length = vs.length → Q ds ε' → Q' vs H') → XL X.K b.1 T Tv W N → t' W σ H Q'
theorem ve_q {e : Expr} {t : VTE} (h : VQ X e t) : VE X e t := let ⟨t', a, c⟩ := h.ex; ⟨t', a, fun b σ H ε T Tv W N Q Q' I q k x => c b σ H ε T Tv W N Q Q' I q (fun d v ε' H' _ J z => k d v ε' H' J z) x⟩
theorem vq_var {i : Nat} {x : Str} {pos : Pos} (hN : X.N[i]? = some x) (hv : Vis X.env.scope x) (hd : (x == ("__debug__" : Str)) = false := by decide) (hcd : (x == ("__classdict__" : Str)) = false := by decide) : VQ X (.Name x pos) (vVar i) := by
  refine ⟨fun _ => tVar i, fun _ _ => pe_var hN hv hd hcd, fun b σ H ε T Tv W N Q Q' I h k _ => ?_⟩
  obtain ⟨d, e, z, q⟩ := h
  obtain ⟨v, hs, J⟩ := I.var e z
  exact ⟨v, hs, k d v ε H Sub.refl J q⟩
theorem vq_mov {i : Nat} {x : Str} {pos : Pos} (hN : X.N[i]? = some x) (hv : Vis X.env.scope x) (hd : (x == ("__debug__" : Str)) = false := by decide) (hcd : (x == ("__classdict__" : Str)) = false := by decide) : VQ X (.Name x pos) (vMov i) := by
  refine ⟨fun _ => tVar i, fun _ _ => pe_var hN hv hd hcd, fun b σ H ε T Tv W N Q Q' I h k _ => ?_⟩
  obtain ⟨d, e, q⟩ := h
  obtain ⟨v, hs, J⟩ := I.mov e
  exact ⟨v, hs, k d v _ H Sub.refl J q⟩
theorem vq_of {e : Expr} {v : V} {d : D} (h : PE X.toCx e (tC v)) (r : ∀ G H, Rp X.K G H d v []) : VQ X e (vC d) :=
  ⟨fun _ => tC v, fun _ _ => h, fun b σ H ε T Tv W N Q Q' I q k _ => k d v ε H Sub.refl (I.push fun G => r G H) q⟩
theorem vq_int {i j pos} : VQ X (.Constant (.int i) j pos) (vC (.int i)) := vq_of pe_int fun _ _ => ⟨rfl, rfl⟩
theorem vq_bl {b j pos} : VQ X (.Constant (.bool b) j pos) (vC (.bl b)) := vq_of pe_bl fun _ _ => ⟨rfl, rfl⟩
theorem vq_non {j pos} : VQ X (.Constant .none j pos) (vC .non) := vq_of pe_non fun _ _ => ⟨rfl, rfl⟩
theorem vq_str {s : Cs} {x : Str} {j pos} (h : x.cps.toList = s) : VQ X (.Constant (.str x) j pos) (vC (.str s)) := vq_of pe_str fun _ _ => ⟨by rw [← h, toS_cps], rfl⟩
theorem vaq_nil : VAQ X [] vaNil := ⟨fun _ => tNil, fun _ _ => pa_nil, fun b σ H ε T Tv W N Q Q' I h k _ => k [] [] ε H Sub.refl (by simpa using I) rfl h⟩
theorem vaq_cons {e : Expr} {es : List Expr} {t : VTE} {u : VTA} (h : VQ X e t) (k : VAQ X es u) (hs : starEach (e :: es) X.env = (false, eval e X.env) :: starEach es X.env := by rfl) : VAQ X (e :: es) (vaCons t u) := by
  obtain ⟨t', h1, h2⟩ := h.ex
  obtain ⟨u', k1, k2⟩ := k.ex
  refine ⟨fun W => tCons (t' W) (u' W), fun W tk => pa_cons (h1 W tk) (k1 W tk) hs, fun b σ H ε T Tv W N Q Q' I q z x => ?_⟩
  refine h2 b σ H ε T Tv W N _ _ I q (fun d v ε1 H1 s1 J q1 => ?_) x
  refine k2 b σ H1 ε1 (T ++ [d]) (Tv ++ [v]) W N _ _ J q1 (fun ds vs ε2 H2 s2 J2 l q2 => ?_) (x.more I.lenT rfl)
  exact z (d :: ds) (v :: vs) ε2 H2 (s1.trans s2) (by simpa only [List.append_assoc, List.cons_append, List.nil_append] using J2) (by simp [l]) q2
theorem vq_tup {es : List Expr} {t : VTA} {x1 : Nat} {pos : Pos} (h : VAQ X es t) : VQ X (.Tuple es x1 pos) (vTup t) := by
  obtain ⟨t', h1, h2⟩ := h.ex
  refine ⟨fun W => tTup (t' W), fun W tk => pe_tup (h1 W tk), fun b σ H ε T Tv W N Q Q' I q k x => ?_⟩
  refine h2 b σ H ε T Tv W N _ _ I q (fun ds vs ε1 H1 s1 J l z => ?_) x
  obtain ⟨z1, z⟩ := z
  exact ⟨k1000 (by rw [← l]; exact z1), fun p hp => k _ _ ε1 _ (s1.trans (Sub.laid hp)) (J.tup I.lenT hp) z⟩
theorem vq_lst {es : List Expr} {t : VTA} {pos : Pos} (h : VAQ X es t) : VQ X (.List es pos) (vLst t) := by
  obtain ⟨t', h1, h2⟩ := h.ex
  refine ⟨fun W => tLst (t' W), fun W tk => pe_lst (h1 W tk), fun b σ H ε T Tv W N Q Q' I q k x => ?_⟩
  refine h2 b σ H ε T Tv W N _ _ I q (fun ds vs ε1 H1 s1 J l z => ?_) x
  obtain ⟨z1, z⟩ := z
  exact ⟨k1000 (by rw [← l]; exact z1), fun p hp => k (.lst true ds) _ ε1 _ (s1.trans (Sub.laid hp)) (J.laid I.lenT hp (.lst vs) fun G H' F e r => ⟨p, vs, F, rfl, e, rfl, r⟩) z⟩
def nones (n : Nat) : List (Option Nat) := List.replicate n none
theorem OpN.runQ {K : PySem.W.Frag} {r : List V → Hp → VK → Prop} {op : List D → (D → Prop) → Prop} (h : OpN K r op) {b : Bs} {σ : L2.St} {H0 H : Hp} {ε : Ep} {T : List D} {Tv : List V} {ds : List D} {vs : List V} {Q : D → Ep → Prop} {Q' : VK}
    (hl : T.length = Tv.length) (hd : ds.length = vs.length) (s : Sub H0 H) (I : SI K b σ H ε (T ++ ds) (Tv ++ vs)) (q : op ds fun d => Q d ε) (k : ∀ d v ε' H', Sub H0 H' → SI K b σ H' ε' (T ++ [d]) (Tv ++ [v]) → Q d ε' → Q' v H') : r vs H Q' :=
  h b σ H ε T Tv ds vs _ Q' hl hd I q fun d v H' s' J z => k d v _ H' (s.trans s') (SI.midDrops J hl hd) z
def vOpQ (op : List D → (D → Prop) → Prop) (t : VTA) : VTE := fun N ε Q => t N ε fun ds ε1 => op ds fun d => Q d ε1
theorem vq_bin {e1 e2 : Expr} {o : Operator} {ta tb : VTE} {r : R2} {op : List D → (D → Prop) → Prop} {pos : Pos} (ho : OpR X.toCx (binaryOp o) r) (hp : OpN X.K (r2N r) op) (ha : VQ X e1 ta) (hb : VQ X e2 tb) :
    VQ X (.BinOp e1 o e2 pos) (vOpQ op (va2 ta tb)) := by
  obtain ⟨ta', a1, a2⟩ := ha.ex
  obtain ⟨tb', b1, b2⟩ := hb.ex
  refine ⟨fun W => tOp r (ta' W) (tb' W), fun W tk => pe_op ho (a1 W tk) (b1 W tk), fun b σ H ε T Tv W N Q Q' I q k x => ?_⟩
  refine a2 b σ H ε T Tv W N _ _ I q (fun d v ε1 H1 s1 J q1 => ?_) x
  refine b2 b σ H1 ε1 (T ++ [d]) (Tv ++ [v]) W N _ _ J q1 (fun d2 w ε2 H2 s2 J2 q2 => ?_) (x.more I.lenT rfl)
  obtain ⟨v', w', e, z⟩ := hp.runQ (ds := [d, d2]) (vs := [v, w]) I.lenT rfl (s1.trans s2) (by simpa only [List.append_assoc, List.cons_append, List.nil_append] using J2) q2 k
  obtain ⟨rfl, e2⟩ := List.cons.inj e
  obtain ⟨rfl, _⟩ := List.cons.inj e2
  exact z
theorem vq_un {e1 : Expr} {o : UnaryOp} {ta : VTE} {r : V → Hp → VK → Prop} {op : List D → (D → Prop) → Prop} {pos : Pos} (ho : UnR X.toCx (unaryOp o) r) (hp : OpN X.K (r1N r) op) (ha : VQ X e1 ta) : VQ X (.UnaryOp o e1 pos) (vOpQ op (va1 ta)) := by
  obtain ⟨ta', a1, a2⟩ := ha.ex
  refine ⟨fun W => tUn r (ta' W), fun W tk => pe_un ho (a1 W tk), fun b σ H ε T Tv W N Q Q' I q k x => ?_⟩
  refine a2 b σ H ε T Tv W N _ _ I q (fun d v ε1 H1 s1 J q1 => ?_) x
  obtain ⟨v', e, z⟩ := hp.runQ (ds := [d]) (vs := [v]) I.lenT rfl s1 J q1 k
  obtain ⟨rfl, _⟩ := List.cons.inj e
  exact z
theorem vq_callB {x : Str} {id : String} {p pos : Pos} {e : Expr} {es : List Expr} {t : VTA} {r : List V → Hp → VK → Prop} {op : List D → (D → Prop) → Prop} (hc : CallR X.toCx (.builtin id) r) (hp : OpN X.K r op) (hg : Gl X.toCx x) (hm : X.mg x = none) (hv : bootBuiltins x = some (.builtin id)) (ha : VAQ X (e :: es) t)
    (hn : x ≠ "__name__" := by decide) (hdb : (x == ("__debug__" : Str)) = false := by decide) (he : starEach (e :: es) X.env = (false, eval e X.env) :: starEach es X.env := by rfl) (hpl : (backTo pos (starEach es X.env)).any (·.1) = false := by rfl) :
    VQ X (.Call (.Name x p) (e :: es) [] pos) (vOpQ op t) := by
  obtain ⟨t', a1, a2⟩ := ha.ex
  refine ⟨fun W => tCB r (t' W), fun W tk => pe_callB hc hg hm hv (a1 W tk) hn hdb he hpl, fun b σ H ε T Tv W N Q Q' I q k x => ?_⟩
  exact a2 b σ H ε T Tv W N _ _ I q (fun ds vs ε1 H1 s1 J l z => hp.runQ I.lenT l s1 J z k) x
theorem vq_callTy {x : Str} {ty : String} {p pos : Pos} {e : Expr} {es : List Expr} {t : VTA} {r : List V → Hp → VK → Prop} {op : List D → (D → Prop) → Prop} (hc : CallR X.toCx (.type ty) r) (hp : OpN X.K r op) (hg : Gl X.toCx x) (hm : X.mg x = none) (hv : bootBuiltins x = some (.type ty)) (ha : VAQ X (e :: es) t)
    (hn : x ≠ "__name__" := by decide) (hdb : (x == ("__debug__" : Str)) = false := by decide) (he : starEach (e :: es) X.env = (false, eval e X.env) :: starEach es X.env := by rfl) (hpl : (backTo pos (starEach es X.env)).any (·.1) = false := by rfl) :
    VQ X (.Call (.Name x p) (e :: es) [] pos) (vOpQ op t) := by
  obtain ⟨t', a1, a2⟩ := ha.ex
  refine ⟨fun W => tCB r (t' W), fun W tk => pe_callTy hc hg hm hv (a1 W tk) hn hdb he hpl, fun b σ H ε T Tv W N Q Q' I q k x => ?_⟩
  exact a2 b σ H ε T Tv W N _ _ I q (fun ds vs ε1 H1 s1 J l z => hp.runQ I.lenT l s1 J z k) x
/-- a call with what stands still: nothing is changed -/
def vCallQ (vsp : VSp) (t : VTA) : VTE := fun N ε Q => t N ε fun ds ε1 => isFzL ds = true ∧ vsp ds (fun r ds' => ds'.length = ds.length ∧ Q r ε1) (fun cls row ds' => ds'.length = ds.length ∧ N cls row ε1)
theorem vq_call {x : Str} {p pos : Pos} {e : Expr} {es : List Expr} {t : VTA} {k n : Nat} {vsp : VSp} (F : Fv X.prog X.w X.K X.mg X.base x k n vsp) (m : Mono vsp) (hr : Room k X.A) (hg : Gl X.toCx x) (hn : (e :: es).length = n) (ha : VAQ X (e :: es) t) (hl : ∀ N ε Q, t N ε Q → t N ε fun ds ε' => ds.length = (e :: es).length ∧ Q ds ε')
    (hdb : (x == ("__debug__" : Str)) = false := by decide) (he : starEach (e :: es) X.env = (false, eval e X.env) :: starEach es X.env := by rfl) (hpl : (backTo pos (starEach es X.env)).any (·.1) = false := by rfl) :
    VQ X (.Call (.Name x p) (e :: es) [] pos) (vCallQ vsp t) := by
  obtain ⟨f, fd, ps, hm, hk, hb, F⟩ := F.ex
  obtain ⟨t', a1, a2⟩ := ha.ex
  refine ⟨fun W => tCallS (Lift X.K n vsp) (WE W) (t' W), fun W tk => pe_callS F hr hg hm hk hb (fun σ => passAt tk σ) (a1 W tk) hdb he hpl, fun b σ H ε T Tv W N Q Q' I q kk x => ?_⟩
  refine a2 b σ H ε T Tv W N _ _ I (hl _ _ _ q) (fun ds vs ε1 H1 s1 J l z => ?_) x
  obtain ⟨zl, zf, z⟩ := z
  obtain ⟨G, F2, J2, out, fr⟩ := J.enter I.lenT
  have e2 : F2 = [] := J2.temps.fz zf
  subst e2
  refine ⟨G, [], ds, J2, by rw [zl, hn], m _ _ _ _ _ (fun r ds' z v H' I' => ?_) (fun cls row ds' z dd v H' I' e n => ?_) z⟩
  · have I2 := out H' _ _ I'
    obtain ⟨_, _, _, I'⟩ := I'
    refine kk r v _ H' (s1.trans fun a o e => I'.keep a o e (by simp [callB])) (SI.midDrops I2 I.lenT (z.1.trans l)) z.2
  · exact x cls dd σ H' _ row v (SI.midDrops (out H' _ _ I') I.lenT (z.1.trans l)) e (fr dd n) z.2
/-! ### a place -/
abbrev VTP := WV → Ep → (List Stp → Prop) → Prop
structure VP (X : Cv) (e : Expr) (i : Nat) (t : VTP) : Prop where
  ex : ∃ t' : WX → TE, (∀ W, Takes X.toCx W → PE X.toCx e (t' W)) ∧ ∀ (b : Bx X) σ H ε T Tv W N (Q : List Stp → Prop) (Q' : VK), SI X.K b.1 σ H ε T Tv → t N ε Q →
    (∀ p d0 d v0 v H', Sub H H' → SI X.K b.1 σ H' ε T Tv → ε[i]? = some (some d0) → getP d0 p = some d → σ[i]? = some (some v0) → AtP H' d0 v0 p v → Q p → Q' v H') → XL X.K b.1 T Tv W N → t' W σ H Q'
def vpName (i : Nat) : VTP := fun _ ε Q => (∃ d0, ε[i]? = some (some d0)) ∧ Q []
theorem getP_nil (d : D) : getP d [] = some d := by cases d <;> rfl
theorem vp_name {i : Nat} {x : Str} {pos : Pos} (hN : X.N[i]? = some x) (hv : Vis X.env.scope x) (hd : (x == ("__debug__" : Str)) = false := by decide) (hcd : (x == ("__classdict__" : Str)) = false := by decide) : VP X (.Name x pos) i (vpName i) := by
  refine ⟨fun _ => tVar i, fun _ _ => pe_var hN hv hd hcd, fun b σ H ε T Tv W N Q Q' I h k _ => ?_⟩
  obtain ⟨⟨d0, e⟩, q⟩ := h
  obtain ⟨v, hs, J⟩ := I.mov e
  exact ⟨v, hs, k [] d0 d0 v v H Sub.refl I e (getP_nil _) hs .nil q⟩
theorem getP_ix : ∀ {p : List Stp} {d0 : D} {ds : List D} {j : Nat}, getP d0 p = some (.lst true ds) → getP d0 (p ++ [.ix j]) = ds[j]?
  | [], d0, ds, j, h => by
    rw [getP_nil] at h
    cases h
    show (match ds[j]? with | some d => getP d [] | none => none) = ds[j]?
    cases ds[j]? with
    | none => rfl
    | some d => exact getP_nil d
  | .ix k :: p, .lst true es, ds, j, h => by
    have h : (match es[k]? with | some d => getP d p | none => none) = some (.lst true ds) := h
    show (match es[k]? with | some d => getP d (p ++ [.ix j]) | none => none) = ds[j]?
    cases e : es[k]? with
    | none => rw [e] at h; cases h
    | some c => rw [e] at h; exact getP_ix h
  | .fd f :: p, .ins true C fs es, ds, j, h => by
    have h : (match fdIx fs f with | some j => (match es[j]? with | some d => getP d p | none => none) | none => none) = some (.lst true ds) := h
    show (match fdIx fs f with | some k => (match es[k]? with | some d => getP d (p ++ [.ix j]) | none => none) | none => none) = ds[j]?
    cases e : fdIx fs f with
    | none => rw [e] at h; cases h
    | some c =>
      rw [e] at h
      have h : (match es[c]? with | some d => getP d p | none => none) = some (.lst true ds) := h
      show (match es[c]? with | some d => getP d (p ++ [.ix j]) | none => none) = ds[j]?
      cases e2 : es[c]? with
      | none => rw [e2] at h; cases h
      | some c => rw [e2] at h; exact getP_ix h
  | .fd _ :: p, .lst true es, ds, j, h => by cases h
  | .ix _ :: p, .ins true C fs es, ds, j, h => by cases h
  | s :: p, .lst false es, ds, j, h => by cases s <;> cases h
  | s :: p, .ins false C fs es, ds, j, h => by cases s <;> cases h
  | s :: p, .tup es, ds, j, h => by cases s <;> cases h
  | s :: p, .hole, ds, j, h => by cases s <;> cases h
  | s :: p, .val _, ds, j, h => by cases s <;> cases h
  | s :: p, .non, ds, j, h => by cases s <;> cases h
  | s :: p, .bl _, ds, j, h => by cases s <;> cases h
  | s :: p, .int _, ds, j, h => by cases s <;> cases h
  | s :: p, .str _, ds, j, h => by cases s <;> cases h
  | s :: p, .ty _, ds, j, h => by cases s <;> cases h
  | s :: p, .pin _ _, ds, j, h => by cases s <;> cases h
  | s :: p, .exn _ _ _ _, ds, j, h => by cases s <;> cases h
  | s :: p, .dK _ _ _, ds, j, h => by cases s <;> cases h
  | s :: p, .dT _ _ _, ds, j, h => by cases s <;> cases h
theorem AtP.ix {H : Hp} {d0 v0 p a ds vs w} {j : Nat} : AtP H d0 v0 p (.ref a) → getP d0 p = some (.lst true ds) → H a = some (.lst vs) → ds.length = vs.length → vs[j]? = some w → AtP H d0 v0 (p ++ [.ix j]) w := by
  intro at_ g ha hl hw
  generalize hv : V.ref a = v at at_
  induction at_ with
  | nil =>
    subst hv
    rw [getP_nil] at g
    cases g
    have hj : j < ds.length := by rw [hl]; exact (List.getElem?_eq_some_iff.mp hw).1
    exact .lst ha (List.getElem?_eq_getElem hj) hl hw .nil
  | lst e1 e2 e3 e4 _ ih =>
    refine .lst e1 e2 e3 e4 (ih ?_ hv)
    rename_i es c a' us k p' w' v' at'
    have g : (match es[k]? with | some d => getP d p' | none => none) = some (.lst true ds) := g
    rw [e2] at g
    exact g
  | ins e1 e2 e3 e4 e5 _ ih =>
    refine .ins e1 e2 e3 e4 e5 (ih ?_ hv)
    rename_i C fs es c a' dx us k f p' w' v' at'
    have g : (match fdIx fs f with | some j => (match es[j]? with | some d => getP d p' | none => none) | none => none) = some (.lst true ds) := g
    rw [e2] at g
    have g : (match es[k]? with | some d => getP d p' | none => none) = some (.lst true ds) := g
    rw [e3] at g
    exact g
end
end VL
/-! VL11: steps of a place; reading and changing what stands there. -/
namespace VL
open PySem PySem.Spec PyProof.Rows L2 VL
theorem getP_fd : ∀ {p : List Stp} {d0 : D} {C : Addr} {fs : List Cs} {ds : List D} {f : Cs} {j : Nat}, getP d0 p = some (.ins true C fs ds) → fdIx fs f = some j → getP d0 (p ++ [.fd f]) = ds[j]?
  | [], d0, C, fs, ds, f, j, h, hf => by
    rw [getP_nil] at h
    cases h
    show (match fdIx fs f with | some j => (match ds[j]? with | some d => getP d [] | none => none) | none => none) = ds[j]?
    rw [hf]
    show (match ds[j]? with | some d => getP d [] | none => none) = ds[j]?
    cases ds[j]? with
    | none => rfl
    | some d => exact getP_nil d
  | .ix k :: p, .lst true es, C, fs, ds, f, j, h, hf => by
    have h : (match es[k]? with | some d => getP d p | none => none) = some (.ins true C fs ds) := h
    show (match es[k]? with | some d => getP d (p ++ [.fd f]) | none => none) = ds[j]?
    cases e : es[k]? with
    | none => rw [e] at h; cases h
    | some c => rw [e] at h; exact getP_fd h hf
  | .fd g :: p, .ins true C' gs es, C, fs, ds, f, j, h, hf => by
    have h : (match fdIx gs g with | some j => (match es[j]? with | some d => getP d p | none => none) | none => none) = some (.ins true C fs ds) := h
    show (match fdIx gs g with | some k => (match es[k]? with | some d => getP d (p ++ [.fd f]) | none => none) | none => none) = ds[j]?
    cases e : fdIx gs g with
    | none => rw [e] at h; cases h
    | some c =>
      rw [e] at h
      have h : (match es[c]? with | some d => getP d p | none => none) = some (.ins true C fs ds) := h
      show (match es[c]? with | some d => getP d (p ++ [.fd f]) | none => none) = ds[j]?
      cases e2 : es[c]? with
      | none => rw [e2] at h; cases h
      | some c => rw [e2] at h; exact getP_fd h hf
  | .fd _ :: p, .lst true es, C, fs, ds, f, j, h, hf => by cases h
  | .ix _ :: p, .ins true C' gs es, C, fs, ds, f, j, h, hf => by cases h
  | s :: p, .lst false es, C, fs, ds, f, j, h, hf => by cases s <;> cases h
  | s :: p, .ins false _ _ _, C, fs, ds, f, j, h, hf => by cases s <;> cases h
  | s :: p, .tup es, C, fs, ds, f, j, h, hf => by cases s <;> cases h
  | s :: p, .hole, C, fs, ds, f, j, h, hf => by cases s <;> cases h
  | s :: p, .val _, C, fs, ds, f, j, h, hf => by cases s <;> cases h
  | s :: p, .non, C, fs, ds, f, j, h, hf => by cases s <;> cases h
  | s :: p, .bl _, C, fs, ds, f, j, h, hf => by cases s <;> cases h
  | s :: p, .int _, C, fs, ds, f, j, h, hf => by cases s <;> cases h
  | s :: p, .str _, C, fs, ds, f, j, h, hf => by cases s <;> cases h
  | s :: p, .ty _, C, fs, ds, f, j, h, hf => by cases s <;> cases h
  | s :: p, .pin _ _, C, fs, ds, f, j, h, hf => by cases s <;> cases h
  | s :: p, .exn _ _ _ _, C, fs, ds, f, j, h, hf => by cases s <;> cases h
  | s :: p, .dK _ _ _, C, fs, ds, f, j, h, hf => by cases s <;> cases h
  | s :: p, .dT _ _ _, C, fs, ds, f, j, h, hf => by cases s <;> cases h
theorem AtP.fd {H : Hp} {d0 v0 p a dx C C2 fs ds vs w f} {j : Nat} : AtP H d0 v0 p (.ref a) → getP d0 p = some (.ins true C fs ds) → H a = some (.ins C2 dx (fzip fs vs)) → fdIx fs f = some j → fs.length = vs.length → ds.length = vs.length → vs[j]? = some w → AtP H d0 v0 (p ++ [.fd f]) w := by
  intro at_ g ha hf hl hd hw
  generalize hv : V.ref a = v at at_
  induction at_ with
  | nil =>
    subst hv
    rw [getP_nil] at g
    cases g
    have hj : j < ds.length := by rw [hd]; exact (List.getElem?_eq_some_iff.mp hw).1
    exact .ins ha hf (List.getElem?_eq_getElem hj) hl hw .nil
  | lst e1 e2 e3 e4 _ ih =>
    refine .lst e1 e2 e3 e4 (ih ?_ hv)
    rename_i es c a' us k p' w' v' at'
    have g : (match es[k]? with | some d => getP d p' | none => none) = some (.ins true C fs ds) := g
    rw [e2] at g
    exact g
  | ins e1 e2 e3 e4 e5 _ ih =>
    refine .ins e1 e2 e3 e4 e5 (ih ?_ hv)
    rename_i C' C3 gs es c a' dx' us k f' p' w' v' at'
    have g : (match fdIx gs f' with | some j => (match es[j]? with | some d => getP d p' | none => none) | none => none) = some (.ins true C fs ds) := g
    rw [e2] at g
    have g : (match es[k]? with | some d => getP d p' | none => none) = some (.ins true C fs ds) := g
    rw [e3] at g
    exact g
section
variable {K : PySem.W.Frag} {b : Bs} {σ : L2.St} {H : Hp} {ε : Ep} {T R : List D} {Tv Rv : List V}
/-- the node at a place, where its address is known -/
theorem SI.focusAt (I : SI K b σ H ε (T ++ R) (Tv ++ Rv)) (hl : T.length = Tv.length) {i : Nat} {d0 d : D} {p : List Stp} {v0 v : V} (e : ε[i]? = some (some d0)) (g : getP d0 p = some d) (hs : σ[i]? = some (some v0)) (at_ : AtP H d0 v0 p v) :
    ∃ G B FR, Sub G H ∧ Rp K G H d v B ∧ RpL K G H R Rv FR ∧ (B ++ FR).Nodup ∧ (∀ a ∈ B ++ FR, G a = none) ∧
      ∀ H' d' B' res w Fr, (∀ a, a ∉ B → H' a = H a) → Rp K G H' d' v B' → Rp K G H' res w Fr → (B ≠ [] ∨ B' = []) → (∃ L, (B' ++ (Fr ++ L)).Perm (B ++ FR)) → SI K b σ H' (ε.set i (some (setP d0 p d'))) (T ++ [res]) (Tv ++ [w]) := by
  obtain ⟨v0', v', G, B, FR, hs', at', su, r, rr, nd, fr, back⟩ := I.focus hl e g
  rw [hs] at hs'
  cases hs'
  have := at_.uniq at'
  subst this
  exact ⟨G, B, FR, su, r, rr, nd, fr, back⟩
theorem SI.nil0 (I : SI K b σ H ε T Tv) : SI K b σ H ε (T ++ []) (Tv ++ []) := by simpa using I
end
theorem ixN_lt {n : Nat} {i : Int} {j : Nat} (h : ixN n i = some j) : j < n := (ixN_seq h).2.1
section
variable {X : Cv}
/-- a step into a list that is ours -/
def vpIx (i : Nat) (t : VTP) (ti : VTE) : VTP := fun N ε Q => t N ε fun p => ti N ε fun k ε2 => ε2 = ε ∧ ∃ d0 ds z j, ε[i]? = some (some d0) ∧ getP d0 p = some (.lst true ds) ∧ k = .int z ∧ ixN ds.length z = some j ∧ Q (p ++ [.ix j])
theorem vp_ix {e idx : Expr} {i : Nat} {t : VTP} {ti : VTE} {pos : Pos} (h : VP X e i t) (hi : VQ X idx ti) (hs : PlainIx idx) : VP X (.Subscript e idx pos) i (vpIx i t ti) := by
  obtain ⟨t', a1, a2⟩ := h.ex
  obtain ⟨u', b1, b2⟩ := hi.ex
  refine ⟨fun W => tOp (rIxL X.K) (t' W) (u' W), fun W tk => pe_ix ix_list (a1 W tk) (b1 W tk) hs, fun b σ H ε T Tv W N Q Q' I q k x => ?_⟩
  refine a2 b σ H ε T Tv W N _ _ I q (fun p d0 d v0 v H1 s1 I1 e g hs at_ q1 => ?_) x
  refine b2 b σ H1 ε T Tv W N _ _ I1 q1 (fun dk vk ε2 H2 s2 I2 q2 => ?_) x
  obtain ⟨rfl, d0', ds, z, j, e', g', rfl, hj, q2⟩ := q2
  rw [e] at e'
  cases e'
  obtain ⟨_, _, _, rfl, _⟩ := I2.last I.lenT
  have I3 := I2.pop I.lenT
  have at2 := at_.grow s2
  obtain ⟨G, B, FR, su, r, _⟩ := I3.nil0.focusAt I.lenT e g' hs at2
  obtain ⟨a, vs, F', rfl, ha, rfl, rl⟩ := r
  have hl := rl.len
  have hj2 := ixN_lt hj
  obtain ⟨w, hw⟩ : ∃ w, vs[j]? = some w := ⟨vs[j]'(by omega), List.getElem?_eq_getElem (by omega)⟩
  refine ⟨a, vs, z, w, rfl, rfl, SqL.of ha, ?_, ?_⟩
  · unfold atI
    rw [← hl, hj]
    exact hw
  · exact k (p ++ [.ix j]) d0 (ds[j]'hj2) v0 w H2 (s1.trans s2) I3 e (by rw [getP_ix g']; exact List.getElem?_eq_getElem hj2) hs (at2.ix g' ha hl hw) q2
/-- a step into a field of an instance that is ours -/
def vpFd (i : Nat) (C : Addr) (f : Cs) (t : VTP) : VTP := fun N ε Q => t N ε fun p => ∃ d0 fs ds j, ε[i]? = some (some d0) ∧ getP d0 p = some (.ins true C fs ds) ∧ fdIx fs f = some j ∧ j < ds.length ∧ Q (p ++ [.fd f])
theorem vp_fd {e : Expr} {i : Nat} {t : VTP} {x : Str} {f : Cs} {C : Addr} {pos : Pos} (h : VP X e i t) (cl : Cls X.K (cA X.K C)) (na : NoAttr X.K (cA X.K C) x) (hx : x = toS f) (hb : attributeBase e x X.env (eval e X.env) = eval e X.env := by rfl) : VP X (.Attribute e x pos) i (vpFd i C f t) := by
  obtain ⟨t', a1, a2⟩ := h.ex
  refine ⟨fun W => tFld X.K (t' W) x, fun W tk => pe_fld (a1 W tk) hb, fun b σ H ε T Tv W N Q Q' I q k xx => ?_⟩
  refine a2 b σ H ε T Tv W N _ _ I q (fun p d0 d v0 v H1 s1 I1 e g hs at_ q1 => ?_) xx
  obtain ⟨d0', fs, ds, j, e', g', hf, hj, q1⟩ := q1
  rw [e] at e'
  cases e'
  obtain ⟨G, B, FR, su, r, _⟩ := I1.nil0.focusAt I.lenT e g' hs at_
  obtain ⟨a, dx, vs, F', rfl, ha, rfl, hl, rl⟩ := r
  have hl2 := rl.len
  obtain ⟨w, hw⟩ : ∃ w, vs[j]? = some w := ⟨vs[j]'(by omega), List.getElem?_eq_getElem (by omega)⟩
  refine ⟨a, cA X.K C, dx, _, w, rfl, ha, cl, na, ?_, ?_⟩
  · rw [hx]
    exact fzip_look hf hw (hl.trans hl2)
  · exact k (p ++ [.fd f]) d0 (ds[j]'hj) v0 w H1 s1 I1 e (by rw [getP_fd g' hf]; exact List.getElem?_eq_getElem hj) hs (at_.fd g' ha hf (hl.trans hl2) hl2 hw) q1
/-- what stands at a place and stands still, read -/
def vAt (i : Nat) (t : VTP) : VTE := fun N ε Q => t N ε fun p => ∃ d0 d, ε[i]? = some (some d0) ∧ getP d0 p = some d ∧ isFz d = true ∧ Q d ε
theorem vq_at {e : Expr} {i : Nat} {t : VTP} (h : VP X e i t) : VQ X e (vAt i t) := by
  obtain ⟨t', a1, a2⟩ := h.ex
  refine ⟨t', a1, fun b σ H ε T Tv W N Q Q' I q k x => ?_⟩
  refine a2 b σ H ε T Tv W N _ _ I q (fun p d0 d v0 v H1 s1 I1 e g hs at_ q1 => ?_) x
  obtain ⟨d0', d', e', g', hz, q1⟩ := q1
  rw [e] at e'
  cases e'
  rw [g] at g'
  cases g'
  obtain ⟨v0', v', G, B, FR, hs', at', su, r, _⟩ := I1.nil0.focus I.lenT e g
  rw [hs] at hs'
  cases hs'
  have := at_.uniq at'
  subst this
  refine k d v ε H1 s1 ?_ q1
  obtain ⟨G, F, Ft, J⟩ := I1
  obtain ⟨ov, A0, B0, C0, hs2, eF, ro, _⟩ := J.slots.focus e
  obtain ⟨v0', rfl, r0⟩ := ro
  rw [hs] at hs2
  cases hs2
  obtain ⟨v2, A, B2, C, eB, rv, at2, _⟩ := r0.focusP g
  have := at_.uniq at2
  subst this
  have e2 := rv.fz hz
  subst e2
  exact ⟨G, F, Ft, J.push rv⟩
/-! ### lists changed by their methods -/
theorem pa_list : PlainAttrs "list" := PySem.F.plainAttrs_list
theorem k1m {n : Nat} (h : n < 1000000) : n < sizeLine := Nat.lt_trans h (by decide)
/-- a method that changes a list: the items and the arguments give the new items and the answer -/
def MutOk (K : PySem.W.Frag) (r : V → List V → Hp → VK → Prop) (mu : List D → List D → Option (List D × D)) : Prop :=
  ∀ (G H : Hp) (a : Addr) (ds : List D) (vs : List V) (F : List Addr) (R : List D) (Rv : List V) (FR : List Addr) (ds' : List D) (res : D) (Q : VK), Sub G H → H a = some (.lst vs) → RpL K G H ds vs F → RpL K G H R Rv FR → (a :: (F ++ FR)).Nodup → G a = none → mu ds R = some (ds', res) →
    (∀ vs' w F' Fr, RpL K G H ds' vs' F' → Rp K G H res w Fr → (∃ L, (F' ++ (Fr ++ L)).Perm (F ++ FR)) → Q w (upd H a (.lst vs'))) → r (.ref a) Rv H Q
def vMut (mu : List D → List D → Option (List D × D)) (i : Nat) (t : VTP) (te : VTA) : VTE := fun N ε Q => t N ε fun p => ∃ d0 ds, ε[i]? = some (some d0) ∧ getP d0 p = some (.lst true ds) ∧ te N ε fun es ε1 => ∃ ds' res, ε1[i]? = some (some d0) ∧ mu ds es = some (ds', res) ∧ Q res (ε1.set i (some (setP d0 p (.lst true ds'))))
theorem mut_run {K : PySem.W.Frag} {b : Bs} {σ : L2.St} {H : Hp} {ε : Ep} {T R : List D} {Tv Rv : List V} {r : V → List V → Hp → VK → Prop} {mu : List D → List D → Option (List D × D)} (m : MutOk K r mu) (I : SI K b σ H ε (T ++ R) (Tv ++ Rv)) (hl : T.length = Tv.length) {i : Nat} {d0 : D} {p : List Stp} {v0 v : V} {ds ds' : List D} {res : D} {Q : VK}
    (e : ε[i]? = some (some d0)) (g : getP d0 p = some (.lst true ds)) (hs : σ[i]? = some (some v0)) (at_ : AtP H d0 v0 p v) (hm : mu ds R = some (ds', res))
    (k : ∀ w H', SI K b σ H' (ε.set i (some (setP d0 p (.lst true ds')))) (T ++ [res]) (Tv ++ [w]) → Q w H') : r v Rv H Q := by
  obtain ⟨G, B, FR, su, rr, rR, nd, fr, back⟩ := I.focusAt hl e g hs at_
  obtain ⟨a, vs, F', rfl, ha, rfl, rl⟩ := rr
  have nd2 : (a :: (F' ++ FR)).Nodup := nd
  refine m G H a ds vs F' R Rv FR ds' res Q su ha rl rR nd2 (fr a (by simp)) hm fun vs' w F2 Fr q1 q2 sp => ?_
  obtain ⟨L, sp⟩ := sp
  have na : ∀ c ∈ F2 ++ (Fr ++ L), c ≠ a := fun c hc z => (List.nodup_cons.mp nd2).1 (z ▸ sp.mem_iff.mp hc)
  have mv : ∀ c ∈ F2 ++ (Fr ++ L), upd H a (.lst vs') c = H c := fun c hc => upd_ne (na c hc)
  refine k w _ (back (upd H a (.lst vs')) (.lst true ds') (a :: F2) res w Fr (fun c hc => upd_ne fun z => hc (by rw [z]; simp)) ⟨a, vs', F2, rfl, upd_same, rfl, q1.mono Sub.refl fun c hc => mv c (List.mem_append_left _ hc)⟩ (q2.mono Sub.refl fun c hc => mv c (List.mem_append_right _ (List.mem_append_left _ hc))) (.inl (by simp)) ⟨L, ?_⟩)
  exact List.Perm.cons a sp
theorem tyV_list {K : PySem.W.Frag} {b : Bs} {σ : L2.St} {H : Hp} {ε : Ep} {T : List D} {Tv : List V} (I : SI K b σ H ε T Tv) {i : Nat} {d0 : D} {p : List Stp} {v0 v : V} {ds : List D} (e : ε[i]? = some (some d0)) (g : getP d0 p = some (.lst true ds)) (hs : σ[i]? = some (some v0)) (at_ : AtP H d0 v0 p v) : tyV K "list" v H := by
  obtain ⟨G, B, FR, su, rr, _⟩ := I.nil0.focusAt I.lenT e g hs at_
  obtain ⟨a, vs, F', rfl, ha, _⟩ := rr
  exact Or.inl ⟨rfl, vs, SqL.of ha⟩
theorem ve_mut {o e : Expr} {es : List Expr} {i : Nat} {t : VTP} {te : VTA} {name : Str} {id : String} {r : V → List V → Hp → VK → Prop} {mu : List D → List D → Option (List D × D)} {apos cpos : Pos} (h : VP X o i t) (he : VAQ X (e :: es) te) (m : MutOk X.K r mu) (sl : Slot "list" name id) (ty : typeOf (.builtin id) = pure (.type "method_descriptor")) (mt : MtR X.toCx id r)
    (hbase : attributeBase o name X.env (eval o X.env) = eval o X.env := by rfl)
    (hfew : ((backTo cpos (starEach (e :: es) X.env)).all (fun x => !x.1) && (backToKw cpos (keywordEach [] X.env)).all (fun x => x.1.isSome) && decide ((e :: es).length + ([] : List Keyword).length + (if ([] : List Keyword).isEmpty then 0 else 1) < 30)) = true := by rfl)
    (hline : (apos.endLine == cpos.line) = true := by rfl) (hs : starEach (e :: es) X.env = (false, eval e X.env) :: starEach es X.env := by rfl) (hplain : (backTo cpos (starEach es X.env)).any (·.1) = false := by rfl) :
    VE X (.Call (.Attribute o name apos) (e :: es) [] cpos) (vMut mu i t te) := by
  obtain ⟨t', a1, a2⟩ := h.ex
  obtain ⟨u', b1, b2⟩ := he.ex
  refine ⟨fun W => tBM X.K "list" r (t' W) (u' W), fun W tk => pe_bm pa_list sl ty mt (a1 W tk) (b1 W tk) hbase hfew hline hs hplain, fun b σ H ε T Tv W N Q Q' I q k x => ?_⟩
  refine a2 b σ H ε T Tv W N _ _ I q (fun p d0 d v0 v H1 s1 I1 e0 g hs at_ q1 => ?_) x
  obtain ⟨d0', ds, e1, g', q1⟩ := q1
  rw [e0] at e1
  cases e1
  refine ⟨tyV_list I1 e0 g' hs at_, b2 b σ H1 ε T Tv W N _ _ I1 q1 (fun ys ws ε2 H2 s2 I2 l q2 => ?_) x⟩
  obtain ⟨ds', res, e2, hm, q2⟩ := q2
  exact mut_run m I2 I.lenT e2 g' hs (at_.grow s2) hm fun w H' J => k res w _ H' J q2
/-- without arguments -/
theorem ve_mut0 {o : Expr} {i : Nat} {t : VTP} {name : Str} {id : String} {r : V → List V → Hp → VK → Prop} {mu : List D → List D → Option (List D × D)} {apos cpos : Pos} (h : VP X o i t) (m : MutOk X.K r mu) (sl : Slot "list" name id) (ty : typeOf (.builtin id) = pure (.type "method_descriptor")) (mt : MtR X.toCx id r)
    (hbase : attributeBase o name X.env (eval o X.env) = eval o X.env := by rfl) (hline : (apos.endLine == cpos.line) = true := by rfl) :
    VE X (.Call (.Attribute o name apos) [] [] cpos) (vMut mu i t vaNil) := by
  obtain ⟨t', a1, a2⟩ := h.ex
  refine ⟨fun W => tBM0 X.K "list" r (t' W), fun W tk => pe_bm0 pa_list sl ty mt (a1 W tk) hbase hline, fun b σ H ε T Tv W N Q Q' I q k x => ?_⟩
  refine a2 b σ H ε T Tv W N _ _ I q (fun p d0 d v0 v H1 s1 I1 e0 g hs at_ q1 => ?_) x
  obtain ⟨d0', ds, e1, g', ds', res, e2, hm, q2⟩ := q1
  rw [e0] at e1
  cases e1
  exact ⟨tyV_list I1 e0 g' hs at_, mut_run m I1.nil0 I.lenT e0 g' hs at_ hm fun w H' J => k res w _ H' J q2⟩
/-- x.append(e) and its like, x a name, e anything -/
def vMutN (mu : List D → List D → Option (List D × D)) (i : Nat) (te : VTA) : VTE := fun N ε Q => (∃ ds, ε[i]? = some (some (.lst true ds))) ∧ te N ε fun es ε1 => ∃ ds ds' res, ε1[i]? = some (some (.lst true ds)) ∧ mu ds es = some (ds', res) ∧ Q res (ε1.set i (some (.lst true ds')))
theorem ve_mutN {y : Str} {opos : Pos} {e : Expr} {es : List Expr} {i : Nat} {rs : List (Option Nat)} {te : VTA} {name : Str} {id : String} {r : V → List V → Hp → VK → Prop} {mu : List D → List D → Option (List D × D)} {apos cpos : Pos} (hN : X.N[i]? = some y) (hv : Vis X.env.scope y) (he : VA X (e :: es) rs te) (hrs : rs.all (· == none) = true) (m : MutOk X.K r mu) (sl : Slot "list" name id) (ty : typeOf (.builtin id) = pure (.type "method_descriptor")) (mt : MtR X.toCx id r)
    (hd : (y == ("__debug__" : Str)) = false := by decide) (hcd : (y == ("__classdict__" : Str)) = false := by decide)
    (hbase : attributeBase (.Name y opos) name X.env (eval (.Name y opos) X.env) = eval (.Name y opos) X.env := by rfl)
    (hfew : ((backTo cpos (starEach (e :: es) X.env)).all (fun x => !x.1) && (backToKw cpos (keywordEach [] X.env)).all (fun x => x.1.isSome) && decide ((e :: es).length + ([] : List Keyword).length + (if ([] : List Keyword).isEmpty then 0 else 1) < 30)) = true := by rfl)
    (hline : (apos.endLine == cpos.line) = true := by rfl) (hs : starEach (e :: es) X.env = (false, eval e X.env) :: starEach es X.env := by rfl) (hplain : (backTo cpos (starEach es X.env)).any (·.1) = false := by rfl) :
    VE X (.Call (.Attribute (.Name y opos) name apos) (e :: es) [] cpos) (vMutN mu i te) := by
  obtain ⟨u', b1, b2⟩ := he.ex
  refine ⟨fun W => tBM X.K "list" r (tVar i) (u' W), fun W tk => pe_bm pa_list sl ty mt (pe_var hN hv hd hcd) (b1 W tk) hbase hfew hline hs hplain, fun b σ H ε T Tv W N Q Q' I q k x => ?_⟩
  obtain ⟨⟨ds0, e0⟩, q⟩ := q
  obtain ⟨v, hs, _⟩ := I.mov e0
  refine ⟨v, hs, tyV_list I e0 (getP_nil _) hs .nil, b2 b σ H ε T Tv W N _ _ I q (fun ys ws ε2 H2 I2 l hh q2 => ?_) x⟩
  obtain ⟨ds, ds', res, e2, hm, q2⟩ := q2
  exact mut_run m I2 I.lenT e2 (getP_nil _) hs .nil hm fun w H' J => k res w _ H' J q2
def muAppend : List D → List D → Option (List D × D) := fun ds es => match es with | [y] => if ds.length < 1000000 then some (ds ++ [y], .non) else none | _ => none
def muPop : List D → List D → Option (List D × D) := fun ds es => match es with | [] => (ds[ds.length - 1]?).map fun y => (ds.dropLast, y) | _ => none
def muExtend : List D → List D → Option (List D × D) := fun ds es => match es with | [.lst true ys] => if ds.length + ys.length < 1000000 then some (ds ++ ys, .non) else none | _ => none
def muClear : List D → List D → Option (List D × D) := fun _ es => match es with | [] => some ([], .non) | _ => none
theorem mu_append {K : PySem.W.Frag} : MutOk K rAppend muAppend := by
  intro G H a ds vs F R Rv FR ds' res Q su ha rl rR nd ga hm k
  match R, hm with
  | [y], hm =>
    have hm : (if ds.length < 1000000 then some (ds ++ [y], D.non) else none) = some (ds', res) := hm
    by_cases hz : ds.length < 1000000
    · rw [if_pos hz] at hm
      cases hm
      obtain ⟨w, rfl, rw_⟩ := rR.one'
      exact ⟨a, vs, w, rfl, rfl, ha, k1m (by rw [← rl.len]; exact hz), k _ _ _ [] (rl.append rR) ⟨rfl, rfl⟩ ⟨[], by simp⟩⟩
    · rw [if_neg hz] at hm; cases hm
theorem mu_clear {K : PySem.W.Frag} : MutOk K rClear muClear := by
  intro G H a ds vs F R Rv FR ds' res Q su ha rl rR nd ga hm k
  match R, hm with
  | [], hm =>
    cases hm
    obtain ⟨rfl, rfl⟩ := rR
    exact ⟨a, vs, rfl, rfl, ha, k [] .non [] [] ⟨rfl, rfl⟩ ⟨rfl, rfl⟩ ⟨F, by simp⟩⟩
theorem mu_extend {K : PySem.W.Frag} : MutOk K rExtend muExtend := by
  intro G H a ds vs F R Rv FR ds' res Q su ha rl rR nd ga hm k
  match R, hm with
  | [.lst true ys], hm =>
    have hm : (if ds.length + ys.length < 1000000 then some (ds ++ ys, D.non) else none) = some (ds', res) := hm
    by_cases hz : ds.length + ys.length < 1000000
    · rw [if_pos hz] at hm
      cases hm
      obtain ⟨w, rfl, rw_⟩ := rR.one'
      obtain ⟨c, us, F2, rfl, hc, rfl, ru⟩ := rw_
      refine ⟨a, c, vs, us, rfl, rfl, ha, hc, Nat.le_of_lt (k1m (by rw [← rl.len, ← ru.len]; exact hz)), k _ _ _ [] (rl.append ru) ⟨rfl, rfl⟩ ⟨[c], ?_⟩⟩
      apply List.perm_iff_count.mpr
      intro z
      simp only [List.count_append, List.count_cons, List.nil_append, List.count_nil]
      omega
    · rw [if_neg hz] at hm; cases hm
theorem mu_pop {K : PySem.W.Frag} : MutOk K rPop muPop := by
  intro G H a ds vs F R Rv FR ds' res Q su ha rl rR nd ga hm k
  match R, hm with
  | [], hm =>
    have hm : (ds[ds.length - 1]?).map (fun y => (ds.dropLast, y)) = some (ds', res) := hm
    obtain ⟨rfl, rfl⟩ := rR
    cases e : ds[ds.length - 1]? with
    | none => rw [e] at hm; cases hm
    | some y =>
      rw [e] at hm
      cases hm
      have hne : ds ≠ [] := fun z => by subst z; cases e
      have e2 : ds = ds.dropLast ++ [res] := by
        have h1 := List.dropLast_concat_getLast hne
        have h2 : ds.getLast hne = res := by
          rw [List.getLast_eq_getElem]
          have := List.getElem?_eq_some_iff.mp e
          exact this.2
        rw [h2] at h1
        exact h1.symm
      have rl2 := rl
      rw [e2] at rl2
      obtain ⟨us, ws, F1, F2, rfl, rfl, r1, r2⟩ := RpL.split rl2
      obtain ⟨w, rfl, rw_⟩ := r2.one'
      refine ⟨a, us ++ [w], w, rfl, rfl, ha, by simp, ?_⟩
      rw [List.dropLast_concat]
      have e3 : (ds.dropLast ++ [res]).dropLast = ds.dropLast := List.dropLast_concat
      exact k us w F1 F2 r1 rw_ ⟨[], by simp⟩
end
end VL
/-! VL12: stores into a container at a place, into a field. -/
namespace VL
open PySem PySem.Spec PyProof.Rows L2 VL
/-- a[i] = v, of a list or a dict -/
def rSetAny : V → V → V → Hp → (Hp → Prop) → Prop := fun o i v H Q => rSetL o i v H Q ∨ ∃ a H4, o = .ref a ∧ DPut H a i v H4 ∧ Q H4
theorem pset_any {X : Cx} (hu : X.A.units + 1 < cLine) : PSet X rSetAny := by
  intro pins s σ H o i v ov iv u Q I ro ri rv h
  rcases h with h | ⟨a, H4, rfl, g, q⟩
  · exact set_list pins s σ H o i v ov iv u Q I ro ri rv h
  · obtain rfl : ov = Value.ref a := ro
    exact d_setItem hu I g ri rv fun s4 I4 => ⟨H4, I4, q⟩
theorem RpL.setAt {K : PySem.W.Frag} {G H : Hp} {ds : List D} {vs : List V} {F : List Addr} {j : Nat} {y : D} {w : V} {Fy : List Addr} (r : RpL K G H ds vs F) (hj : j < ds.length) (ry : Rp K G H y w Fy) : ∃ F', RpL K G H (ds.set j y) (vs.set j w) F' ∧ ∃ L, (F' ++ L).Perm (F ++ Fy) := by
  obtain ⟨v, A, B, C, hv, rfl, rv, back⟩ := r.focus (i := j) (List.getElem?_eq_getElem hj)
  refine ⟨A ++ Fy ++ C, back G H y w Fy Sub.refl (fun _ _ => rfl) ry, B, ?_⟩
  apply List.perm_iff_count.mpr
  intro a
  simp only [List.count_append]
  omega
section
variable {K : PySem.W.Frag} {b : Bs} {σ : L2.St} {H : Hp} {ε : Ep} {T : List D} {Tv : List V} {y k : D} {w kv : V}
theorem idx_nodup {α : Type} [DecidableEq α] : ∀ {ks : List α} {k : α}, kIx ks k = none → ks.Nodup → (ks ++ [k]).Nodup
  | ks, k, h, n => by
    have : ∀ {ks : List α}, kIx ks k = none → k ∉ ks := by
      intro ks
      induction ks with
      | nil => intro _; simp
      | cons a ks ih =>
        intro h
        unfold kIx at h
        split at h
        · cases h
        · rename_i na
          cases e : kIx ks k with
          | some i => rw [e] at h; cases h
          | none =>
            intro hm
            rcases List.mem_cons.mp hm with z | z
            · exact na z.symm
            · exact ih e z
    refine List.nodup_append.mpr ⟨n, by simp, fun a ha c hc e => ?_⟩
    have hc : c = k := by simpa using hc
    subst hc e
    exact this h ha
/-- a store runs -/
theorem put_run (I : SI K b σ H ε (T ++ [y, k]) (Tv ++ [w, kv])) (hl : T.length = Tv.length) {i : Nat} {d0 c c' : D} {p : List Stp} {v0 v : V} {Q : Hp → Prop}
    (e : ε[i]? = some (some d0)) (g : getP d0 p = some c) (hs : σ[i]? = some (some v0)) (at_ : AtP H d0 v0 p v) (hm : putD c k y = some c')
    (q : ∀ H', SI K b σ H' (ε.set i (some (setP d0 p c'))) T Tv → Q H') : rSetAny v kv w H Q := by
  obtain ⟨G, B, FR, su, rr, rR, nd, fr, back⟩ := I.focusAt hl e g hs at_
  obtain ⟨w', vs1, Fy, A2, e1, rfl, ry, k', vs2, Fk, A3, e2, rfl, rk, rfl, rfl⟩ := rR
  cases e1
  cases e2
  -- the new node at a
  have fin : ∀ (a : Addr) (F' : List Addr) (o : HO) (F2 : List Addr), B = a :: F' → (∀ H', H' a = some o → (∀ z ∈ F2, H' z = H z) → Rp K G H' c' v (a :: F2)) → (∃ L, (F2 ++ L).Perm (F' ++ Fy)) → SI K b σ (upd H a o) (ε.set i (some (setP d0 p c'))) T Tv := by
    intro a F' o F2 eB mk sp
    subst eB
    obtain ⟨L, sp⟩ := sp
    have nd2 : (a :: (F' ++ (Fy ++ (Fk ++ [])))).Nodup := nd
    have na : ∀ z ∈ F2, z ≠ a := fun z hz e => by
      have h1 : z ∈ F' ++ Fy := sp.mem_iff.mp (List.mem_append_left _ hz)
      refine (List.nodup_cons.mp nd2).1 (e ▸ ?_)
      simp only [List.mem_append] at h1 ⊢
      grind
    have J := back (upd H a o) c' (a :: F2) .non .non [] (fun z hz => upd_ne fun e => hz (by rw [e]; simp)) (mk _ upd_same fun z hz => upd_ne (na z hz)) ⟨rfl, rfl⟩ (.inl (by simp)) ⟨L ++ Fk, ?_⟩
    · exact J.drop hl
    · apply List.perm_iff_count.mpr
      intro z
      have := sp.count_eq z
      simp only [List.count_append, List.count_cons, List.cons_append, List.nil_append, List.count_nil] at this ⊢
      omega
  have growF : ∀ {A L Fy' : List Addr}, (A ++ L).Perm (Fy' ++ Fy) → ∃ L, (A ++ L).Perm (Fy' ++ Fy) := fun h => ⟨_, h⟩
  cases c with
  | lst m ds =>
    cases m with
    | false => cases hm
    | true =>
      cases k with
      | int kk =>
        obtain ⟨rfl, rfl⟩ := rk
        have hm : (ixN ds.length kk).map (fun j => D.lst true (ds.set j y)) = some c' := hm
        cases hj : ixN ds.length kk with
        | none => rw [hj] at hm; cases hm
        | some j =>
          rw [hj] at hm
          cases hm
          obtain ⟨a, vs, F', rfl, ha, rfl, rl⟩ := rr
          have hlt := ixN_lt hj
          obtain ⟨F2, r2, sp⟩ := rl.setAt hlt ry
          exact .inl ⟨a, vs, kk, j, rfl, rfl, ha, by rw [← rl.len]; exact hj, q _ (fin a F' _ F2 rfl (fun H' h1 h2 => ⟨a, _, F2, rfl, h1, rfl, r2.mono Sub.refl h2⟩) sp)⟩
      | _ => cases hm
  | pin u c1 =>
    cases c1 with
    | lst m ds =>
      cases m with
      | false => cases hm
      | true =>
        cases k with
        | int kk =>
          obtain ⟨rfl, rfl⟩ := rk
          have hm : (ixN ds.length kk).map (fun j => D.pin u (.lst true (ds.set j y))) = some c' := hm
          cases hj : ixN ds.length kk with
          | none => rw [hj] at hm; cases hm
          | some j =>
            rw [hj] at hm
            cases hm
            obtain ⟨rfl, a, vs, F', rfl, ha, rfl, rl⟩ := rr
            have hlt := ixN_lt hj
            obtain ⟨F2, r2, sp⟩ := rl.setAt hlt ry
            exact .inl ⟨a, vs, kk, j, rfl, rfl, ha, by rw [← rl.len]; exact hj, q _ (fin a F' _ F2 rfl (fun H' h1 h2 => ⟨rfl, a, _, F2, rfl, h1, rfl, r2.mono Sub.refl h2⟩) sp)⟩
        | _ => cases hm
    | _ => cases hm
  | dK m ks ds =>
    cases m with
    | false => cases hm
    | true =>
      have hm : (if ds.length < 1000000 then (keyD k).map fun k => (match kIx ks k with | some j => D.dK true ks (ds.set j y) | none => D.dK true (ks ++ [k]) (ds ++ [y])) else none) = some c' := hm
      by_cases hz : ds.length < 1000000
      · rw [if_pos hz] at hm
        cases hk : keyD k with
        | none => rw [hk] at hm; cases hm
        | some kc0 =>
          rw [hk] at hm
          obtain ⟨a, vs, F', rfl, ha, rfl, l1, n1, rl⟩ := rr
          obtain ⟨rfl, rfl⟩ := rk.keyD hk
          have l2 : ks.length = vs.length := l1.trans rl.len
          refine .inr ⟨a, _, rfl, DPut.k ha (k1m (by unfold kzip; rw [List.length_zip, List.length_map, l2, Nat.min_self, ← rl.len]; exact hz)), ?_⟩
          rw [kzip_put n1 l2]
          cases hi : kIx ks kc0 with
          | some j =>
            have hm : some (D.dK true ks (ds.set j y)) = some c' := by rw [← hm, Option.map_some, hi]
            cases hm
            have hlt : j < ds.length := by rw [← l1]; exact kIx_lt hi
            obtain ⟨F2, r2, sp⟩ := rl.setAt hlt ry
            exact q _ (fin a F' _ F2 rfl (fun H' h1 h2 => ⟨a, _, F2, rfl, h1, rfl, by simpa using l1, n1, r2.mono Sub.refl h2⟩) sp)
          | none =>
            have hm : some (D.dK true (ks ++ [kc0]) (ds ++ [y])) = some c' := by rw [← hm, Option.map_some, hi]
            cases hm
            exact q _ (fin a F' _ (F' ++ Fy) rfl (fun H' h1 h2 => ⟨a, _, F' ++ Fy, rfl, h1, rfl, by simp [l1], idx_nodup hi n1, (rl.append (RpL.one.mpr ry)).mono Sub.refl h2⟩) ⟨[], by simp⟩)
      · rw [if_neg hz] at hm; cases hm
  | dT m ks ds =>
    cases m with
    | false => cases hm
    | true =>
      have hm : (if ds.length < 1000000 then (keyT k).map fun k => (match kIx ks k with | some j => D.dT true ks (ds.set j y) | none => D.dT true (ks ++ [k]) (ds ++ [y])) else none) = some c' := hm
      by_cases hz : ds.length < 1000000
      · rw [if_pos hz] at hm
        cases hk : keyT k with
        | none => rw [hk] at hm; cases hm
        | some kc0 =>
          rw [hk] at hm
          obtain ⟨a, vs, F', rfl, ha, rfl, l1, n1, rl⟩ := rr
          obtain ⟨kb, rfl, hkb, rfl⟩ := rk.keyT su hk
          have l2 : ks.length = vs.length := l1.trans rl.len
          refine .inr ⟨a, _, rfl, DPut.t ha hkb (k1m (by unfold tzip; rw [List.length_zip, List.length_map, l2, Nat.min_self, ← rl.len]; exact hz)), ?_⟩
          rw [tzip_put n1 l2]
          cases hi : kIx ks kc0 with
          | some j =>
            have hm : some (D.dT true ks (ds.set j y)) = some c' := by rw [← hm, Option.map_some, hi]
            cases hm
            have hlt : j < ds.length := by rw [← l1]; exact kIx_lt hi
            obtain ⟨F2, r2, sp⟩ := rl.setAt hlt ry
            exact q _ (fin a F' _ F2 rfl (fun H' h1 h2 => ⟨a, _, F2, rfl, h1, rfl, by simpa using l1, n1, r2.mono Sub.refl h2⟩) sp)
          | none =>
            have hm : some (D.dT true (ks ++ [kc0]) (ds ++ [y])) = some c' := by rw [← hm, Option.map_some, hi]
            cases hm
            exact q _ (fin a F' _ (F' ++ Fy) rfl (fun H' h1 h2 => ⟨a, _, F' ++ Fy, rfl, h1, rfl, by simp [l1], idx_nodup hi n1, (rl.append (RpL.one.mpr ry)).mono Sub.refl h2⟩) ⟨[], by simp⟩)
      · rw [if_neg hz] at hm; cases hm
  | _ => cases hm
end
section
variable {X : Cv}
/-- place[k] = e -/
def vSet (i : Nat) (te : VTE) (tp : VTP) (tk : VTE) : VTS := fun N ε => te N.rx ε fun d ε1 => tp N.rx ε1 fun p => tk N.rx ε1 fun k ε2 => ∃ d0 c c', ε2[i]? = some (some d0) ∧ ε1[i]? = some (some d0) ∧ getP d0 p = some c ∧ putD c k d = some c' ∧ N.nx (ε2.set i (some (setP d0 p c')))
theorem vs_set {o ie e : Expr} {i : Nat} {te tk : VTE} {tp : VTP} {pos tpos : Pos} {k : Nat} (hr : Room k X.A) (he : VE X e te) (hp : VP X o i tp) (hk : VQ X ie tk)
    (hsw : swapsWithSole [.Subscript o ie tpos] e pos.line X.env = pure false := by rfl) (hw : swappedStores [.Subscript o ie tpos] e X.env = pure none := by rfl)
    (h1 : (assignEach [.Subscript o ie tpos] X.env).map (·.2) = [assign (.Subscript o ie tpos) X.env] := by rfl)
    (ha : ∀ v, assign (.Subscript o ie tpos) X.env v = (do
      let ov ← holding [v] (eval o X.env)
      let iv ← holding [v, ov] (eval ie X.env)
      standAt tpos
      holding [v, ov, iv] (setItem ov iv v)
      release [v, ov, iv] []) := by intro _; rfl) : VS X (.Assign [.Subscript o ie tpos] e pos) (vSet i te tp tk) := by
  obtain ⟨te', e1, e2⟩ := he.ex
  obtain ⟨tp', p1, p2⟩ := hp.ex
  obtain ⟨tk', k1, k2⟩ := hk.ex
  refine ⟨fun W => tAsg (te' W) (gSub (tp' W) (tk' W) rSetAny), fun W tk => ps_asg (e1 W tk) (pg_sub (p1 W tk) (k1 W tk) (pset_any (by have := hr.units; omega)) ha) hsw hw h1, fun b σ H ε T Tv W N E I q l x => ?_⟩
  refine e2 b σ H ε T Tv W N.rx _ _ I q (fun d v ε1 H1 I1 q1 => ?_) x
  have x1 : XL X.K b.1 (T ++ [d]) (Tv ++ [v]) W N.rx := x.more I.lenT rfl
  refine p2 b σ H1 ε1 (T ++ [d]) (Tv ++ [v]) W N.rx _ _ I1 q1 (fun p d0 c v0 vc H2 s2 I2 ei g hs at_ q2 => ?_) x1
  refine k2 b σ H2 ε1 (T ++ [d]) (Tv ++ [v]) W N.rx _ _ I2 q2 (fun kd kv ε2 H3 s3 I3 q3 => ?_) x1
  obtain ⟨d0', c0, c', ei2, ei1, g', hm, q3⟩ := q3
  rw [ei] at ei1
  cases ei1
  rw [g] at g'
  cases g'
  exact put_run (by simpa only [List.append_assoc, List.cons_append, List.nil_append] using I3) I.lenT ei2 g hs (at_.grow s3) hm fun H' J => l.nx σ H' _ J q3
end
end VL
/-! VL13: operations that lay a new object; len, subscripts, in, +, isinstance, list, tuple, dict. -/
namespace VL
open PySem PySem.Spec PyProof.Rows L2 VL
section
variable {K : PySem.W.Frag} {b : Bs} {σ : L2.St} {H : Hp} {ε : Ep} {T : List D} {Tv : List V}
theorem SIx.pushL {G F Ft} : ∀ {ds : List D} {vs : List V} {T : List D} {Tv : List V}, SIx K b G F Ft σ H ε T Tv → RpL K G H ds vs [] → SIx K b G F Ft σ H ε (T ++ ds) (Tv ++ vs)
  | [], vs, T, Tv, I, r => by
    obtain ⟨rfl, _⟩ := r
    simpa using I
  | d :: ds, vs, T, Tv, I, r => by
    obtain ⟨v, vs', F1, F2, rfl, f, rd, rs⟩ := r
    obtain ⟨rfl, rfl⟩ := List.append_eq_nil_iff.mp f.symm
    have := SIx.pushL (I.push rd) rs
    simpa only [List.append_assoc, List.cons_append, List.nil_append] using this
end
/-- the answer of an operation: a value, or a new object of things that stand still -/
inductive Nw (K : PySem.W.Frag) (G H : Hp) : D → V → Hp → Prop where
  | val {d v} : (∀ G' H', Sub G G' → Rp K G' H' d v []) → Nw K G H d v H
  | lst {ys : List D} {ws : List V} {p : Addr} : RpL K G H ys ws [] → H p = none → Nw K G H (.lst true ys) (.ref p) (upd H p (.lst ws))
  | tup {ys : List D} {ws : List V} {p : Addr} : RpL K G H ys ws [] → H p = none → Nw K G H (.tup ys) (.ref p) (upd H p (.tup ws))
  | dK {ks : List Kc} {ys : List D} {ws : List V} {p : Addr} : RpL K G H ys ws [] → H p = none → ks.length = ys.length → ks.Nodup → Nw K G H (.dK true ks ys) (.ref p) (upd H p (.dK (kzip ks ws)))
  | dT {ks : List (List Kc)} {ys : List D} {ws : List V} {p : Addr} : RpL K G H ys ws [] → H p = none → ks.length = ys.length → ks.Nodup → Nw K G H (.dT true ks ys) (.ref p) (upd H p (.dT (tzip ks ws)))
theorem OpN.mk {K : PySem.W.Frag} {r : List V → Hp → VK → Prop} {op : List D → (D → Prop) → Prop}
    (h : ∀ (G H : Hp) (ds : List D) (vs : List V) (F : List Addr) (Q : D → Prop) (Q' : VK), Sub G H → RpL K G H ds vs F → op ds Q → (∀ d v H', Nw K G H d v H' → Q d → Q' v H') → r vs H Q') : OpN K r op :=
  fun b σ H ε T Tv ds vs Q Q' hl hd I q k => by
    obtain ⟨G, F, Ft, J⟩ := I
    obtain ⟨F1, F2, rfl, r1, r2⟩ := J.temps.split2 hl
    have hl2 : (T ++ ds).length = (Tv ++ vs).length := by simp [hl, hd]
    refine h G H ds vs F2 Q Q' J.sub r2 q fun d v H' nw z => ?_
    cases nw with
    | val rd =>
      refine k d v H Sub.refl ⟨G, F, F1 ++ F2, ?_⟩ z
      have := J.push (d := d) (v := v) (rd G H Sub.refl)
      simpa only [List.append_assoc] using this
    | lst ry hp =>
      refine k _ _ _ (Sub.laid hp) ?_ z
      have := SI.laid (ds := _) (vs := _) ⟨G, F, F1 ++ F2, J.pushL ry⟩ hl2 hp (.lst _) (fun G H' F e r => (show Rp K G H' (.lst true _) _ _ from ⟨_, _, F, rfl, e, rfl, r⟩))
      simpa only [List.append_assoc] using this
    | tup ry hp =>
      refine k _ _ _ (Sub.laid hp) ?_ z
      have := SI.tup (ds := _) (vs := _) ⟨G, F, F1 ++ F2, J.pushL ry⟩ hl2 hp
      simpa only [List.append_assoc] using this
    | dK ry hp l n =>
      refine k _ _ _ (Sub.laid hp) ?_ z
      have := SI.laid (ds := _) (vs := _) ⟨G, F, F1 ++ F2, J.pushL ry⟩ hl2 hp (.dK _) (fun G H' F e r => (show Rp K G H' (.dK true _ _) _ _ from ⟨_, _, F, rfl, e, rfl, l, n, r⟩))
      simpa only [List.append_assoc] using this
    | dT ry hp l n =>
      refine k _ _ _ (Sub.laid hp) ?_ z
      have := SI.laid (ds := _) (vs := _) ⟨G, F, F1 ++ F2, J.pushL ry⟩ hl2 hp (.dT _) (fun G H' F e r => (show Rp K G H' (.dT true _ _) _ _ from ⟨_, _, F, rfl, e, rfl, l, n, r⟩))
      simpa only [List.append_assoc] using this
theorem kzip_len {ks : List Kc} {vs : List V} (h : ks.length = vs.length) : (kzip ks vs).length = vs.length := by
  unfold kzip; rw [List.length_zip, List.length_map, h, Nat.min_self]
theorem tzip_len {ks : List (List Kc)} {vs : List V} (h : ks.length = vs.length) : (tzip ks vs).length = vs.length := by
  unfold tzip; rw [List.length_zip, List.length_map, h, Nat.min_self]
/-! ### the items of a list or tuple -/
def seqD : D → Option (List D)
  | .lst _ ds => some ds
  | .tup ds => some ds
  | _ => none
theorem Rp.seqD {K : PySem.W.Frag} {G H : Hp} (hs : Sub G H) {d : D} {v : V} {F : List Addr} {ds : List D} (r : Rp K G H d v F) (h : VL.seqD d = some ds) : ∃ p vs F', v = .ref p ∧ (SqL K H p vs ∨ SqT K H p vs) ∧ RpL K G H ds vs F' := by
  cases d with
  | lst m xs =>
    cases h
    cases m with
    | false => obtain ⟨a, vs, rfl, s, rfl, r⟩ := r; exact ⟨a, vs, _, rfl, .inl (hs.sqL s), r⟩
    | true => obtain ⟨a, vs, F', rfl, s, rfl, r⟩ := r; exact ⟨a, vs, _, rfl, .inl (SqL.of s), r⟩
  | tup xs =>
    cases h
    obtain ⟨a, vs, rfl, s, r⟩ := r
    exact ⟨a, vs, _, rfl, .inr (SqT.of (hs _ _ s)), r⟩
  | _ => cases h
def seqP : D → Option (List D)
  | .pin _ (.lst m ds) => some ds
  | d => seqD d
theorem Rp.seqP {K : PySem.W.Frag} {G H : Hp} (hs : Sub G H) {d : D} {v : V} {F : List Addr} {ds : List D} (r : Rp K G H d v F) (h : VL.seqP d = some ds) : ∃ p vs F', v = .ref p ∧ (SqL K H p vs ∨ SqT K H p vs) ∧ RpL K G H ds vs F' := by
  cases d with
  | pin u c =>
    obtain ⟨rfl, r⟩ := r
    cases c with
    | lst m xs =>
      cases h
      exact r.seqD hs rfl
    | _ => cases h
  | lst m xs => exact r.seqD hs h
  | tup xs => exact r.seqD hs h
  | _ => cases h
/-! ### len -/
def lenD : D → Option Nat
  | .str s => if s.length < 1000000 then some s.length else none
  | .lst _ ds => some ds.length
  | .tup ds => some ds.length
  | .dK _ _ ds => some ds.length
  | .dT _ _ ds => some ds.length
  | _ => none
def sLen : List D → (D → Prop) → Prop := fun ds Q => ∃ x n, ds = [x] ∧ lenD x = some n ∧ Q (.int n)
def rLenA (K : PySem.W.Frag) : List V → Hp → VK → Prop := fun xs H Q => (∃ x n, xs = [x] ∧ LenV K x H n ∧ Q (.int n) H) ∨ (∃ a kvs, xs = [V.ref a] ∧ Rd H a (.dK kvs) ∧ Q (.int kvs.length) H) ∨ rLenT xs H Q
theorem call_lenR {X : Cx} : CallR X (.builtin "len") (fun xs H Q => ∃ a kvs, xs = [V.ref a] ∧ Rd H a (.dK kvs) ∧ Q (.int kvs.length) H) := by
  intro pins s σ H xs us Q I r h
  obtain ⟨a, kvs, rfl, e, q⟩ := h
  obtain ⟨u, rfl, ru⟩ := vals1 r
  cases ru
  exact d_len I e fun t s' J => ⟨.int kvs.length, H, J, ⟨t, rfl⟩, q⟩
theorem call_lenA {X : Cx} : CallR X (.builtin "len") (rLenA X.K) := CallR.or call_len (CallR.or call_lenR call_len_dT)
theorem toS_len (s : Cs) : (toS s).length = s.length := by
  show (toS s).cps.size = s.length
  simp [toS]
theorem opn_len {K : PySem.W.Frag} : OpN K (rLenA K) sLen := OpN.pure fun G H ds vs F Q Q' hs r q k => by
  obtain ⟨x, n, rfl, hn, q⟩ := q
  obtain ⟨v, rfl, rx⟩ := r.one'
  have fin : Q' (.int n) H := k (.int n) _ (fun _ _ _ => ⟨rfl, rfl⟩) q
  cases x with
  | str s =>
    obtain ⟨rfl, _⟩ := rx
    by_cases hz : s.length < 1000000
    · have hn : (if s.length < 1000000 then some s.length else none) = some n := hn
      rw [if_pos hz] at hn
      cases hn
      exact .inl ⟨_, s.length, rfl, ⟨by rw [toS_len]; exact Nat.le_of_lt (k1m hz), (toS_len s).symm⟩, fin⟩
    · have hn : (if s.length < 1000000 then some s.length else none) = some n := hn
      rw [if_neg hz] at hn
      cases hn
  | lst m xs =>
    cases hn
    obtain ⟨p, us, F', rfl, hq, rl⟩ := rx.seqD hs rfl
    rw [rl.len] at fin
    refine .inl ⟨_, us.length, rfl, ?_, fin⟩
    rcases hq with hq | hq
    · exact .inl ⟨us, hq, rfl⟩
    · exact .inr ⟨us, hq, rfl⟩
  | tup xs =>
    cases hn
    obtain ⟨p, us, F', rfl, hq, rl⟩ := rx.seqD hs rfl
    rw [rl.len] at fin
    refine .inl ⟨_, us.length, rfl, ?_, fin⟩
    rcases hq with hq | hq
    · exact .inl ⟨us, hq, rfl⟩
    · exact .inr ⟨us, hq, rfl⟩
  | dK m ks xs =>
    cases hn
    have : ∃ a us F', v = .ref a ∧ Rd H a (.dK (kzip ks us)) ∧ ks.length = xs.length ∧ RpL K G H xs us F' := by
      cases m with
      | false => obtain ⟨a, us, e, s, _, l, _, r⟩ := rx; exact ⟨a, us, _, e, hs.rd s, l, r⟩
      | true => obtain ⟨a, us, F', e, s, _, l, _, r⟩ := rx; exact ⟨a, us, _, e, .inl s, l, r⟩
    obtain ⟨a, us, F', rfl, e, l, rl⟩ := this
    refine .inr (.inl ⟨a, _, rfl, e, ?_⟩)
    rw [kzip_len (l.trans rl.len), ← rl.len]
    exact fin
  | dT m ks xs =>
    cases hn
    have : ∃ a us F', v = .ref a ∧ H a = some (.dT (tzip ks us)) ∧ ks.length = xs.length ∧ RpL K G H xs us F' := by
      cases m with
      | false => obtain ⟨a, us, e, s, _, l, _, r⟩ := rx; exact ⟨a, us, _, e, hs _ _ s, l, r⟩
      | true => obtain ⟨a, us, F', e, s, _, l, _, r⟩ := rx; exact ⟨a, us, _, e, s, l, r⟩
    obtain ⟨a, us, F', rfl, e, l, rl⟩ := this
    refine .inr (.inr ⟨a, _, rfl, e, ?_⟩)
    rw [tzip_len (l.trans rl.len), ← rl.len]
    exact fin
  | _ => cases hn
/-! ### subscripts -/
def rIxD : R2 := fun x y H Q => ∃ a v, x = .ref a ∧ DGet H a y (some v) ∧ Q v H
theorem ix_dict {X : Cx} (hu : X.A.units + 1 < cLine) : IxR X rIxD := by
  intro value slice pins s σ H x y v u Q I rx ry h hs
  obtain ⟨a, z, rfl, g, q⟩ := h
  obtain rfl : v = Value.ref a := rx
  exact tail_any (dict_typeIs I g) slot_dict_getitem.lookup (d_getItem hu I g ry fun w' s' I' rw' => ⟨z, H, I', rw', q⟩) hs
def rIxA (K : PySem.W.Frag) : R2 := fun x y H Q => rIx K x y H Q ∨ rIxD x y H Q
theorem ix_any {X : Cx} {k : Nat} (hr : Room k X.A) : IxR X (rIxA X.K) := ix_seq.or (ix_dict (by have := hr.units; omega))
/-- a subscript: the item, which stands still -/
def ixD : D → D → Option D
  | .str s, .int i => if s.length < 1000000 then (ixN s.length i).bind fun j => (s[j]?).map fun c => .str [c] else none
  | c, k => getD c k
def sIx : List D → (D → Prop) → Prop := fun ds Q => ∃ c k d, ds = [c, k] ∧ ixD c k = some d ∧ isFz d = true ∧ Q d
theorem RpL.at {K : PySem.W.Frag} {G H : Hp} {ds : List D} {vs : List V} {F : List Addr} {j : Nat} {d : D} (r : RpL K G H ds vs F) (h : ds[j]? = some d) (z : isFz d = true) : ∃ v, vs[j]? = some v ∧ Rp K G H d v [] := by
  obtain ⟨v, A, B, C, hv, rfl, rv, _⟩ := r.focus h
  have := rv.fz z
  subst this
  exact ⟨v, hv, rv⟩
theorem Rp.fzUp {K : PySem.W.Frag} {G H G' H' : Hp} {d : D} {v : V} (r : Rp K G H d v []) (s : Sub G G') : Rp K G' H' d v [] := r.mono s fun _ z => nomatch z
theorem getD_run {K : PySem.W.Frag} {G H : Hp} (hs : Sub G H) {c k d : D} {v w : V} {F1 F2 : List Addr} (rc : Rp K G H c v F1) (rk : Rp K G H k w F2) (h : getD c k = some d) (z : isFz d = true) :
    ∃ u, Rp K G H d u [] ∧ ∀ Q : VK, Q u H → rIxA K v w H Q := by
  have seq : ∀ (ds : List D) (i : Int), VL.seqP c = some ds → k = .int i → ((ixN ds.length i).bind fun j => ds[j]?) = some d → ∃ u, Rp K G H d u [] ∧ ∀ Q : VK, Q u H → rIxA K v w H Q := by
    intro ds i e1 e2 e3
    subst e2
    obtain ⟨p, vs, F', rfl, hq, rl⟩ := rc.seqP hs e1
    obtain ⟨rfl, _⟩ := rk
    cases hj : ixN ds.length i with
    | none => rw [hj] at e3; cases e3
    | some j =>
      rw [hj] at e3
      have e3 : ds[j]? = some d := e3
      obtain ⟨u, hu, ru⟩ := rl.at e3 z
      have ha : atI vs i = some u := by
        unfold atI
        rw [← rl.len, hj]
        exact hu
      refine ⟨u, ru, fun Q q => ?_⟩
      rcases hq with hq | hq
      · exact .inl (.inl ⟨p, vs, i, u, rfl, rfl, hq, ha, q⟩)
      · exact .inl (.inr (.inl ⟨p, vs, i, u, rfl, rfl, hq, ha, q⟩))
  cases c with
  | lst m ds => cases k <;> first | exact seq ds _ rfl rfl h | cases h
  | pin u c1 =>
    cases c1 with
    | lst m ds => cases k <;> first | exact seq ds _ rfl rfl h | cases h
    | _ => cases h
  | tup ds => cases k <;> first | exact seq ds _ rfl rfl h | cases h
  | dK m ks xs =>
    have : ∃ a us F', v = .ref a ∧ Rd H a (.dK (kzip ks us)) ∧ ks.length = xs.length ∧ RpL K G H xs us F' := by
      cases m with
      | false => obtain ⟨a, us, e, s, _, l, _, r⟩ := rc; exact ⟨a, us, _, e, hs.rd s, l, r⟩
      | true => obtain ⟨a, us, F', e, s, _, l, _, r⟩ := rc; exact ⟨a, us, _, e, .inl s, l, r⟩
    obtain ⟨a, us, F', rfl, e, l, rl⟩ := this
    have h : ((keyD k).bind fun k => (kIx ks k).bind fun j => xs[j]?) = some d := h
    cases hk : keyD k with
    | none => rw [hk] at h; cases h
    | some k0 =>
      rw [hk] at h
      have h : ((kIx ks k0).bind fun j => xs[j]?) = some d := h
      cases hj : kIx ks k0 with
      | none => rw [hj] at h; cases h
      | some j =>
        rw [hj] at h
        obtain ⟨u, hu, ru⟩ := rl.at h z
        obtain ⟨rfl, _⟩ := rk.keyD hk
        refine ⟨u, ru, fun Q q => .inr ⟨a, u, rfl, ?_, q⟩⟩
        have : DGet H a (kV (kc k0)) (valV (kzip ks us) (kc k0)) := .inl ⟨_, _, e, rfl, rfl⟩
        rw [kzip_val (l.trans rl.len), hj] at this
        have e5 : ((some j).bind fun j => us[j]?) = some u := hu
        rw [e5] at this
        exact this
  | dT m ks xs =>
    have : ∃ a us F', v = .ref a ∧ H a = some (.dT (tzip ks us)) ∧ ks.length = xs.length ∧ RpL K G H xs us F' := by
      cases m with
      | false => obtain ⟨a, us, e, s, _, l, _, r⟩ := rc; exact ⟨a, us, _, e, hs _ _ s, l, r⟩
      | true => obtain ⟨a, us, F', e, s, _, l, _, r⟩ := rc; exact ⟨a, us, _, e, s, l, r⟩
    obtain ⟨a, us, F', rfl, e, l, rl⟩ := this
    have h : ((keyT k).bind fun k => (kIx ks k).bind fun j => xs[j]?) = some d := h
    cases hk : keyT k with
    | none => rw [hk] at h; cases h
    | some k0 =>
      rw [hk] at h
      have h : ((kIx ks k0).bind fun j => xs[j]?) = some d := h
      cases hj : kIx ks k0 with
      | none => rw [hj] at h; cases h
      | some j =>
        rw [hj] at h
        obtain ⟨u, hu, ru⟩ := rl.at h z
        obtain ⟨kb, rfl, hkb, _⟩ := rk.keyT hs hk
        refine ⟨u, ru, fun Q q => .inr ⟨a, u, rfl, ?_, q⟩⟩
        have := DGet.t (k := tkc k0) e hkb
        rw [tzip_val (l.trans rl.len), hj] at this
        have e5 : ((some j).bind fun j => us[j]?) = some u := hu
        rw [e5] at this
        exact this
  | _ => cases h
theorem opn_ix {K : PySem.W.Frag} : OpN K (r2N (rIxA K)) sIx := OpN.pure fun G H ds vs F Q Q' hs r q k => by
  obtain ⟨c, kk, d, rfl, hd, hz, q⟩ := q
  obtain ⟨v, w, F1, F2, rfl, rc, rk⟩ := r.two
  refine ⟨v, w, rfl, ?_⟩
  have gen : getD c kk = some d → rIxA K v w H Q' := fun h => by
    obtain ⟨u, ru, go⟩ := getD_run hs rc rk h hz
    exact go Q' (k d u (fun G' H' s => ru.fzUp s) q)
  cases c with
  | str s =>
    cases kk with
    | int i =>
      have hd : (if s.length < 1000000 then (ixN s.length i).bind fun j => (s[j]?).map fun c => D.str [c] else none) = some d := hd
      by_cases hl : s.length < 1000000
      · rw [if_pos hl] at hd
        cases hj : ixN s.length i with
        | none => rw [hj] at hd; cases hd
        | some j =>
          rw [hj] at hd
          have hd : (s[j]?).map (fun c => D.str [c]) = some d := hd
          cases hc : s[j]? with
          | none => rw [hc] at hd; cases hd
          | some c =>
            rw [hc] at hd
            cases hd
            obtain ⟨rfl, _⟩ := rc
            obtain ⟨rfl, _⟩ := rk
            refine .inl (.inr (.inr ⟨toS s, i, c, rfl, rfl, by rw [toS_len]; exact Nat.le_of_lt (k1m hl), ?_, k (.str [c]) _ (fun _ _ _ => ⟨rfl, rfl⟩) q⟩))
            unfold atI
            have e1 : (toS s).cps.toList = s := by simp [toS]
            rw [e1, hj]
            exact hc
      · rw [if_neg hl] at hd; cases hd
    | _ => cases hd
  | _ => exact gen hd
section
variable {X : Cv}
theorem ve_ix {a bb : Expr} {ra rb : Option Nat} {ta tb : VTE} {pos : Pos} {k : Nat} (hr : Room k X.A) (ha : VG X a ra ta) (hb : VG X bb rb tb) (hs : PlainIx bb) : VE X (.Subscript a bb pos) (vOp sIx [ra, rb] (va2 ta tb)) := by
  obtain ⟨ta', tb', h1, h2, h3⟩ := two_args ha hb
  refine ⟨fun W => tOp (rIxA X.K) (ta' W) (tb' W), fun W tk => pe_ix (ix_any hr) (h1 W tk) (h2 W tk) hs, fun b σ H ε T Tv W N Q Q' I q k x => ?_⟩
  exact h3 b σ H ε T Tv W N _ _ I q (fun x y v w ε' H' J hv hw z => two_run opn_ix I.lenT J hv hw z k) x
theorem vq_ix {a bb : Expr} {ta tb : VTE} {pos : Pos} {k : Nat} (hr : Room k X.A) (ha : VQ X a ta) (hb : VQ X bb tb) (hs : PlainIx bb) : VQ X (.Subscript a bb pos) (vOpQ sIx (va2 ta tb)) := by
  obtain ⟨ta', a1, a2⟩ := ha.ex
  obtain ⟨tb', b1, b2⟩ := hb.ex
  refine ⟨fun W => tOp (rIxA X.K) (ta' W) (tb' W), fun W tk => pe_ix (ix_any hr) (a1 W tk) (b1 W tk) hs, fun b σ H ε T Tv W N Q Q' I q k x => ?_⟩
  refine a2 b σ H ε T Tv W N _ _ I q (fun d v ε1 H1 s1 J q1 => ?_) x
  refine b2 b σ H1 ε1 (T ++ [d]) (Tv ++ [v]) W N _ _ J q1 (fun d2 w ε2 H2 s2 J2 q2 => ?_) (x.more I.lenT rfl)
  obtain ⟨v', w', e, z⟩ := opn_ix.runQ (ds := [d, d2]) (vs := [v, w]) I.lenT rfl (s1.trans s2) (by simpa only [List.append_assoc, List.cons_append, List.nil_append] using J2) q2 k
  obtain ⟨rfl, e2⟩ := List.cons.inj e
  obtain ⟨rfl, _⟩ := List.cons.inj e2
  exact z
end
end VL
/-! VL14: in, +, *, divmod, isinstance, list, tuple, dict, min, max, int, str. -/
namespace VL
open PySem PySem.Spec PyProof.Rows L2 VL
/-! ### in -/
def flatD : D → Bool
  | .non => true
  | .bl _ => true
  | .int _ => true
  | .str _ => true
  | _ => false
/-- whether x is in c, where it can be told -/
def memD (x : D) : D → Option Bool
  | .lst m ys => if flatD x && ys.all flatD then some (ys.any fun y => deq y x) else if okD 64 x && okD 64 (.lst m ys) then some (ys.any fun y => deq y x) else none
  | .tup ys => if flatD x && ys.all flatD then some (ys.any fun y => deq y x) else none
  | .dK _ ks _ => (keyD x).map fun k => (kIx ks k).isSome
  | .dT _ ks _ => (keyT x).map fun k => (kIx ks k).isSome
  | .str s => match x with | .str [c] => some (decide (c ∈ s)) | _ => none
  | _ => none
section
variable {K : PySem.W.Frag} {G H : Hp}
theorem Rp.flat {x : D} {v : V} {F : List Addr} (h : flatD x = true) (r : Rp K G H x v F) : flatV v = true := by
  cases x <;> first | (exfalso; revert h; simp [flatD]; done) | (obtain ⟨rfl, _⟩ := r; rfl)
theorem Rp.flatEq {x y : D} {v w : V} {F F' : List Addr} (hx : flatD x = true) (hy : flatD y = true) (r : Rp K G H x v F) (q : Rp K G H y w F') : eqV v w = deq x y := by
  cases x <;> cases y <;> first
    | (exfalso; revert hx; simp [flatD]; done)
    | (exfalso; revert hy; simp [flatD]; done)
    | (obtain ⟨rfl, _⟩ := r
       obtain ⟨rfl, _⟩ := q
       first | rfl | exact toS_beq _ _)
theorem RpL.flat : ∀ {ds : List D} {vs : List V} {F : List Addr}, ds.all flatD = true → RpL K G H ds vs F → vs.all flatV = true ∧ ∀ {x : D} {v : V} {F' : List Addr}, flatD x = true → Rp K G H x v F' → inV v vs = ds.any fun y => deq y x
  | [], vs, F, h, r => by
    obtain ⟨rfl, _⟩ := r
    exact ⟨rfl, fun _ _ => rfl⟩
  | d :: ds, vs, F, h, r => by
    obtain ⟨v, vs', F1, F2, rfl, rfl, rd, rs⟩ := r
    rw [List.all_cons, Bool.and_eq_true] at h
    obtain ⟨i1, i2⟩ := RpL.flat h.2 rs
    refine ⟨by rw [List.all_cons, rd.flat h.1, i1]; rfl, fun hx rx => ?_⟩
    show (eqV v _ || inV _ vs') = _
    rw [List.any_cons, rd.flatEq h.1 hx rx, i2 hx rx]
theorem any_pd {x : D} (hx : okD 64 x = true) : ∀ {n : Nat} {ys : List D}, okDL n ys = true → ((pdL ys).any fun z => PyData.eqv z (pd x)) = ys.any fun y => deq y x
  | n, [], _ => rfl
  | n, y :: ys, h => by
    obtain ⟨a1, a2⟩ := Bool.and_eq_true_iff.mp (show (okD n y && okDL n ys) = true by simpa [okDL] using h)
    show (PyData.eqv (pd y) (pd x) || _) = _
    rw [List.any_cons, deq_pd a1 hx, any_pd hx a2]
def rInX (K : PySem.W.Frag) (neg : Bool) : R2 := fun x y H Q => rIn K neg x y H Q ∨ (if neg then rNotInD K x y H Q else rInD K x y H Q) ∨ (∃ (c : Nat) (z : Str), x = .str ⟨#[c]⟩ ∧ y = .str z ∧ Q (.bl (if neg then !decide (c ∈ z.cps.toList) else decide (c ∈ z.cps.toList))) H) ∨
  ∃ a o, y = .ref a ∧ DGet H a x o ∧ Q (.bl (if neg then !o.isSome else o.isSome)) H
theorem opr_in {X : Cx} {k : Nat} (hr : Room k X.A) : OpR X (compareOp .In) (rInX X.K false) := by
  refine OpR.or op_in_seq (OpR.or (op_inD (by have := hr.un; omega)) (OpR.or op_in_sign ?_))
  intro pins s σ H x y v u Q I rx ry h
  obtain ⟨a, o, rfl, g, q⟩ := h
  obtain rfl : u = Value.ref a := ry
  exact d_in (by have := hr.units; omega) I g rx fun s' I' => ⟨.bl o.isSome, H, I', rfl, q⟩
theorem opr_notIn {X : Cx} {k : Nat} (hr : Room k X.A) : OpR X (compareOp .NotIn) (rInX X.K true) := by
  refine OpR.or op_notIn_seq (OpR.or (op_notInD (by have := hr.un; omega)) (OpR.or op_notIn_sign ?_))
  intro pins s σ H x y v u Q I rx ry h
  obtain ⟨a, o, rfl, g, q⟩ := h
  obtain rfl : u = Value.ref a := ry
  exact d_notIn (by have := hr.units; omega) I g rx fun s' I' => ⟨.bl (!o.isSome), H, I', rfl, q⟩
def sIn (neg : Bool) : List D → (D → Prop) → Prop := fun ds Q => ∃ x c r, ds = [x, c] ∧ memD x c = some r ∧ Q (.bl (if neg then !r else r))
theorem mem_run (hs : Sub G H) {neg : Bool} {x c : D} {v w : V} {F1 F2 : List Addr} {r : Bool} {Q' : VK} (rx : Rp K G H x v F1) (rc : Rp K G H c w F2) (h : memD x c = some r) (q : Q' (.bl (if neg then !r else r)) H) : rInX K neg v w H Q' := by
  have flatS : ∀ ys, VL.seqD c = some ys → flatD x = true → ys.all flatD = true → (ys.any fun y => deq y x) = r → rInX K neg v w H Q' := by
    intro ys e hx hy e2
    obtain ⟨p, vs, F', rfl, hq, rl⟩ := rc.seqD hs e
    obtain ⟨i1, i2⟩ := rl.flat hy
    refine .inl ⟨p, vs, rfl, hq, rx.flat hx, i1, ?_⟩
    rw [i2 hx rx, e2]
    exact q
  cases c with
  | lst m ys =>
    have h : (if (flatD x && ys.all flatD) = true then some (ys.any fun y => deq y x) else if (okD 64 x && okD 64 (.lst m ys)) = true then some (ys.any fun y => deq y x) else none) = some r := h
    by_cases h1 : (flatD x && ys.all flatD) = true
    · rw [if_pos h1] at h
      obtain ⟨a1, a2⟩ := Bool.and_eq_true_iff.mp h1
      exact flatS ys rfl a1 a2 (Option.some.inj h)
    · rw [if_neg h1] at h
      by_cases h2 : (okD 64 x && okD 64 (.lst m ys)) = true
      · rw [if_pos h2] at h
        cases h
        obtain ⟨a1, a2⟩ := Bool.and_eq_true_iff.mp h2
        refine .inr (.inl ?_)
        have e3 : ((pdL ys).any fun z => PyData.eqv z (pd x)) = ys.any fun y => deq y x := any_pd a1 (n := 63) (by simpa [okD] using a2)
        cases neg with
        | true => exact ⟨pd x, pdL ys, rx.dp hs a1, rc.dp hs a2, shp a1, shp a2, by rw [e3]; exact q⟩
        | false => exact ⟨pd x, pdL ys, rx.dp hs a1, rc.dp hs a2, shp a1, shp a2, by rw [e3]; exact q⟩
      · rw [if_neg h2] at h; cases h
  | tup ys =>
    have h : (if (flatD x && ys.all flatD) = true then some (ys.any fun y => deq y x) else none) = some r := h
    by_cases h1 : (flatD x && ys.all flatD) = true
    · rw [if_pos h1] at h
      obtain ⟨a1, a2⟩ := Bool.and_eq_true_iff.mp h1
      exact flatS ys rfl a1 a2 (Option.some.inj h)
    · rw [if_neg h1] at h; cases h
  | str s =>
    cases x with
    | str cs =>
      match cs, h with
      | [c], h =>
        have h : some (decide (c ∈ s)) = some r := h
        cases h
        obtain ⟨rfl, _⟩ := rx
        obtain ⟨rfl, _⟩ := rc
        refine .inr (.inr (.inl ⟨c, toS s, rfl, rfl, ?_⟩))
        have e1 : (toS s).cps.toList = s := by simp [toS]
        rw [e1]
        exact q
    | _ => cases h
  | dK m ks xs =>
    have : ∃ a us F', w = .ref a ∧ Rd H a (.dK (kzip ks us)) ∧ ks.length = xs.length ∧ RpL K G H xs us F' := by
      cases m with
      | false => obtain ⟨a, us, e, s, _, l, _, r⟩ := rc; exact ⟨a, us, _, e, hs.rd s, l, r⟩
      | true => obtain ⟨a, us, F', e, s, _, l, _, r⟩ := rc; exact ⟨a, us, _, e, .inl s, l, r⟩
    obtain ⟨a, us, F', rfl, e, l, rl⟩ := this
    have h : ((keyD x).map fun k => (kIx ks k).isSome) = some r := h
    cases hk : keyD x with
    | none => rw [hk] at h; cases h
    | some k0 =>
      rw [hk] at h
      cases h
      obtain ⟨rfl, _⟩ := rx.keyD hk
      refine .inr (.inr (.inr ⟨a, _, rfl, (.inl ⟨_, kc k0, e, rfl, rfl⟩ : DGet H a (kV (kc k0)) _), ?_⟩))
      rw [kzip_val (l.trans rl.len)]
      have e5 : ((kIx ks k0).bind fun j => us[j]?).isSome = (kIx ks k0).isSome := by
        cases hj : kIx ks k0 with
        | none => rfl
        | some j =>
          have := kIx_lt hj
          have : j < us.length := by rw [← rl.len, ← l]; exact this
          simp [this]
      rw [e5]
      exact q
  | dT m ks xs =>
    have : ∃ a us F', w = .ref a ∧ H a = some (.dT (tzip ks us)) ∧ ks.length = xs.length ∧ RpL K G H xs us F' := by
      cases m with
      | false => obtain ⟨a, us, e, s, _, l, _, r⟩ := rc; exact ⟨a, us, _, e, hs _ _ s, l, r⟩
      | true => obtain ⟨a, us, F', e, s, _, l, _, r⟩ := rc; exact ⟨a, us, _, e, s, l, r⟩
    obtain ⟨a, us, F', rfl, e, l, rl⟩ := this
    have h : ((keyT x).map fun k => (kIx ks k).isSome) = some r := h
    cases hk : keyT x with
    | none => rw [hk] at h; cases h
    | some k0 =>
      rw [hk] at h
      cases h
      obtain ⟨kb, rfl, hkb, _⟩ := rx.keyT hs hk
      refine .inr (.inr (.inr ⟨a, _, rfl, DGet.t (k := tkc k0) e hkb, ?_⟩))
      rw [tzip_val (l.trans rl.len)]
      have e5 : ((kIx ks k0).bind fun j => us[j]?).isSome = (kIx ks k0).isSome := by
        cases hj : kIx ks k0 with
        | none => rfl
        | some j =>
          have := kIx_lt hj
          have : j < us.length := by rw [← rl.len, ← l]; exact this
          simp [this]
      rw [e5]
      exact q
  | _ => cases h
theorem opn_in {neg : Bool} : OpN K (r2N (rInX K neg)) (sIn neg) := OpN.pure fun G H ds vs F Q Q' hs r q k => by
  obtain ⟨x, c, z, rfl, hz, q⟩ := q
  obtain ⟨v, w, F1, F2, rfl, rx, rc⟩ := r.two
  exact ⟨v, w, rfl, mem_run hs rx rc hz (k (.bl _) _ (fun _ _ _ => ⟨rfl, rfl⟩) q)⟩
end
/-! ### + -/
/-- list + list, any two that are read -/
def rCatR (K : PySem.W.Frag) : R2 := fun x y H Q => ∃ l c xs zs, x = .ref l ∧ y = .ref c ∧ SqL K H l xs ∧ SqL K H c zs ∧ xs.length + zs.length ≤ sizeLine ∧ ∀ p, H p = none → Q (.ref p) (upd H p (.lst (xs ++ zs)))
theorem op_catR {X : Cx} : OpR X (binaryOp .Add) (rCatR X.K) := by
  intro pins s σ H x y v u Q I rx ry h
  obtain ⟨l, c, xs, zs, rfl, rfl, hx, hy, hz, q⟩ := h
  cases rx
  cases ry
  obtain ⟨its, r, pl, hl⟩ := I.list hx
  obtain ⟨its2, r2, pl2, hl2⟩ := I.list hy
  obtain ⟨⟨cls, dd, data, sl⟩, ho, hc, n, hd⟩ := pl.isList
  obtain ⟨⟨cls2, dd2, data2, sl2⟩, ho2, hc2, n2, hd2⟩ := pl2.isList
  simp only at hc hd hc2 hd2
  subst hc hd hc2 hd2
  have e : its.toArray ++ its2.toArray = (its ++ its2).toArray := by simp
  refine concat_meets ⟨_, ho, rfl⟩ ⟨_, ho2, rfl⟩ noFill_list_add seq_list_add PySem.F.slot_list_add PySem.F.entry_list_add (PySem.F.args_list_add_2 _ _) (list_addW l c its.toArray its2.toArray n n2 dd dd2 sl sl2 (by have := r.length; have := r2.length; simp only [List.size_toArray]; omega)) ⟨ho, ho2, ?_⟩
  rw [e]
  refine ⟨.ref s.heap.objs.size, _, I.laid (t' := s.toks) (o := .lst (xs ++ zs)) (fun b ob q => Heap.get?_push_of_some _ q) (Nat.le_refl _) ?_, rfl, q _ (I.hok.fresh (Nat.le_refl _))⟩
  exact ⟨by rw [List.length_append]; exact hz, its ++ its2, 0, r.append r2, Heap.get?_push_size _ rfl⟩
end VL
/-! VL15: +, *, divmod, isinstance, list, tuple, dict, min, max, int, str, truth. -/
namespace VL
open PySem PySem.Spec PyProof.Rows L2 VL
section
variable {K : PySem.W.Frag} {G H : Hp}
theorem toS_app (s t : Cs) : toS s ++ toS t = toS (s ++ t) := by
  show (⟨(toS s).cps ++ (toS t).cps⟩ : Str) = _
  simp [toS]
theorem nwI (i : Int) : Nw K G H (.int i) (.int i) H := .val fun _ _ _ => ⟨rfl, rfl⟩
theorem nwB (c : Bool) : Nw K G H (.bl c) (.bl c) H := .val fun _ _ _ => ⟨rfl, rfl⟩
theorem nwS (s : Cs) : Nw K G H (.str s) (.str (toS s)) H := .val fun _ _ _ => ⟨rfl, rfl⟩
/-- x + y -/
def addD : D → D → Option D
  | .int i, .int j => some (.int (i + j))
  | .str s, .str t => if s.length + t.length < 1000000 then some (.str (s ++ t)) else none
  | .lst _ xs, .lst _ ys => if (isFzL xs && isFzL ys) = true then (if xs.length + ys.length < 1000000 then some (.lst true (xs ++ ys)) else none) else none
  | .tup xs, .tup ys => if (isFzL xs && isFzL ys) = true then (if xs.length + ys.length < 1000000 then some (.tup (xs ++ ys)) else none) else none
  | _, _ => none
def rAddA (K : PySem.W.Frag) : R2 := fun x y H Q => rI0 (fun i j => .int (i + j)) x y H Q ∨ (∃ i j, x = .str i ∧ y = .str j ∧ i.length + j.length ≤ sizeLine ∧ Q (.str (i ++ j)) H) ∨ rCatR K x y H Q ∨ rCatA K x y H Q
theorem opr_add {X : Cx} : OpR X (binaryOp .Add) (rAddA X.K) := OpR.or op_add (OpR.or op_add_str (OpR.or op_catR op_catA))
def sAdd : List D → (D → Prop) → Prop := fun ds Q => ∃ x y d, ds = [x, y] ∧ addD x y = some d ∧ Q d
theorem opn_add : OpN K (r2N (rAddA K)) sAdd := OpN.mk fun G H ds vs F Q Q' hs r q k => by
  obtain ⟨x, y, d, rfl, h, q⟩ := q
  obtain ⟨v, w, F1, F2, rfl, rx, ry⟩ := r.two
  refine ⟨v, w, rfl, ?_⟩
  cases x with
  | int i =>
    cases y with
    | int j =>
      cases h
      obtain ⟨rfl, _⟩ := rx
      obtain ⟨rfl, _⟩ := ry
      exact .inl ⟨i, j, rfl, rfl, k _ _ _ (nwI _) q⟩
    | _ => cases h
  | str s =>
    cases y with
    | str t =>
      have h : (if s.length + t.length < 1000000 then some (D.str (s ++ t)) else none) = some d := h
      by_cases hz : s.length + t.length < 1000000
      · rw [if_pos hz] at h
        cases h
        obtain ⟨rfl, _⟩ := rx
        obtain ⟨rfl, _⟩ := ry
        refine .inr (.inl ⟨_, _, rfl, rfl, by rw [toS_len, toS_len]; exact Nat.le_of_lt (k1m hz), ?_⟩)
        rw [toS_app]
        exact k _ _ _ (nwS _) q
      · rw [if_neg hz] at h; cases h
    | _ => cases h
  | lst m xs =>
    cases y with
    | lst m2 ys =>
      have h : (if (isFzL xs && isFzL ys) = true then (if xs.length + ys.length < 1000000 then some (D.lst true (xs ++ ys)) else none) else none) = some d := h
      by_cases hf : (isFzL xs && isFzL ys) = true
      · rw [if_pos hf] at h
        by_cases hz : xs.length + ys.length < 1000000
        · rw [if_pos hz] at h
          cases h
          obtain ⟨f1, f2⟩ := Bool.and_eq_true_iff.mp hf
          have hx : ∃ a us, v = .ref a ∧ SqL K H a us ∧ RpL K G H xs us [] := by
            cases m with
            | false => obtain ⟨a, us, e, s, _, r⟩ := rx; exact ⟨a, us, e, hs.sqL s, r⟩
            | true => obtain ⟨a, us, F', e, s, _, r⟩ := rx; have := r.fz f1; subst this; exact ⟨a, us, e, SqL.of s, r⟩
          have hy : ∃ a us, w = .ref a ∧ SqL K H a us ∧ RpL K G H ys us [] := by
            cases m2 with
            | false => obtain ⟨a, us, e, s, _, r⟩ := ry; exact ⟨a, us, e, hs.sqL s, r⟩
            | true => obtain ⟨a, us, F', e, s, _, r⟩ := ry; have := r.fz f2; subst this; exact ⟨a, us, e, SqL.of s, r⟩
          obtain ⟨a, us, rfl, s1, r1⟩ := hx
          obtain ⟨a2, us2, rfl, s2, r2⟩ := hy
          refine .inr (.inr (.inl ⟨a, a2, us, us2, rfl, rfl, s1, s2, by rw [← r1.len, ← r2.len]; exact Nat.le_of_lt (k1m hz), fun p hp => k _ _ _ (.lst (by simpa using r1.append r2) hp) q⟩))
        · rw [if_neg hz] at h; cases h
      · rw [if_neg hf] at h; cases h
    | _ => cases h
  | tup xs =>
    cases y with
    | tup ys =>
      have h : (if (isFzL xs && isFzL ys) = true then (if xs.length + ys.length < 1000000 then some (D.tup (xs ++ ys)) else none) else none) = some d := h
      by_cases hf : (isFzL xs && isFzL ys) = true
      · rw [if_pos hf] at h
        by_cases hz : xs.length + ys.length < 1000000
        · rw [if_pos hz] at h
          cases h
          obtain ⟨f1, f2⟩ := Bool.and_eq_true_iff.mp hf
          obtain ⟨a, us, rfl, s1, r1⟩ := rx
          obtain ⟨a2, us2, rfl, s2, r2⟩ := ry
          have := r1.fz f1; subst this
          have := r2.fz f2; subst this
          have n1 : us = [] → xs = [] := fun z => by have := r1.len; subst z; simpa using this
          have n2 : us2 = [] → ys = [] := fun z => by have := r2.len; subst z; simpa using this
          refine .inr (.inr (.inr ⟨a, a2, us, us2, rfl, rfl, SqT.of (hs _ _ s1), SqT.of (hs _ _ s2), by rw [← r1.len, ← r2.len]; exact Nat.le_of_lt (k1m hz), fun z => ?_, fun z z2 => ?_, fun _ _ p hp => k _ _ _ (.tup (by simpa using r1.append r2) hp) q⟩))
          · have := n1 z
            subst this
            exact k (.tup ys) _ _ (.val fun G' H' s => ⟨a2, us2, rfl, s _ _ s2, r2.mono s fun _ z => nomatch z⟩) q
          · have := n2 z2
            subst this
            refine k _ _ _ (.val fun G' H' s => ?_) q
            rw [List.append_nil]
            exact ⟨a, us, rfl, s _ _ s1, r1.mono s fun _ z => nomatch z⟩
        · rw [if_neg hz] at h; cases h
      · rw [if_neg hf] at h; cases h
    | _ => cases h
  | _ => cases h
/-! ### * -/
def rMulA : R2 := fun x y H Q => rI CMl (fun i j => .int (i * j)) x y H Q ∨ rRep x y H Q
theorem opr_mulA {X : Cx} : OpR X (binaryOp .Mult) rMulA := OpR.or opr_mul op_rep
/-- x * y: ints, or a list of our own that is repeated -/
def sMul : List D → (D → Prop) → Prop := fun ds Q => (∃ i j, ds = [.int i, .int j] ∧ CMl i j ∧ Q (.int (i * j))) ∨
  ∃ xs n, ds = [.lst true xs, .int n] ∧ isFzL xs = true ∧ n < 1000000 ∧ xs.length * n.toNat < 1000000 ∧ -1000000 < n ∧ Q (.lst true (List.replicate n.toNat xs).flatten)
theorem RpL.rep {xs : List D} {us : List V} (r : RpL K G H xs us []) : ∀ n : Nat, RpL K G H (List.replicate n xs).flatten (List.replicate n us).flatten []
  | 0 => ⟨rfl, rfl⟩
  | n + 1 => by
    rw [List.replicate_succ, List.replicate_succ, List.flatten_cons, List.flatten_cons]
    have := r.append (RpL.rep r n)
    simpa using this
theorem opn_mul : OpN K (r2N rMulA) sMul := OpN.mk fun G H ds vs F Q Q' hs r q k => by
  rcases q with ⟨i, j, rfl, hc, q⟩ | ⟨xs, n, rfl, f1, h1, h2, h3, q⟩
  · obtain ⟨v, w, F1, F2, rfl, ⟨rfl, _⟩, ⟨rfl, _⟩⟩ := r.two
    exact ⟨_, _, rfl, .inl ⟨i, j, rfl, rfl, hc, k _ _ _ (nwI _) q⟩⟩
  · obtain ⟨v, w, F1, F2, rfl, rx, ⟨rfl, _⟩⟩ := r.two
    obtain ⟨a, us, F', rfl, s, rfl, r⟩ := rx
    have := r.fz f1; subst this
    refine ⟨_, _, rfl, .inr ⟨a, n, us, rfl, rfl, s, by omega, by omega, by rw [← r.len]; exact Nat.le_of_lt (k1m h2), fun p hp => k _ _ _ (.lst (r.rep _) hp) q⟩⟩
/-! ### divmod -/
theorem call_divmodA {X : Cx} : CallR X (.builtin "divmod") (fun xs H Q => ∃ i j, xs = [.int i, .int j] ∧ CDv i j ∧ ∀ p, H p = none → Q (.ref p) (upd H p (.tup [.int (i.fdiv j), .int (i.fmod j)]))) := by
  intro pins s σ H xs us Q I r h
  obtain ⟨i, j, rfl, ⟨h1, h2⟩, q⟩ := h
  obtain ⟨u, w', rfl, ⟨t, rfl⟩, ⟨t', rfl⟩⟩ := vals2 r
  refine divmod_int h1 ?_ (.inl (PyProof.noPylong_of_log2 h2))
  have hn : H s.heap.objs.size = none := I.hok.fresh (Nat.le_refl _)
  refine ⟨.ref s.heap.objs.size, _, ?_, rfl, q _ hn⟩
  refine I.laid (fun b o e => Heap.get?_push_of_some _ e) (Nat.le_refl _) ⟨by simp only [List.length_cons, List.length_nil]; rw [sizeLine_eq]; decide, [.int (i.fdiv j) s.toks, .int (i.fmod j) (s.toks + 1)], .cons ⟨_, rfl⟩ (.cons ⟨_, rfl⟩ .nil), ?_⟩
  exact ⟨_, Heap.get?_push_size s.heap rfl, rfl, 0, rfl⟩
def sDivmod : List D → (D → Prop) → Prop := fun ds Q => ∃ i j, ds = [.int i, .int j] ∧ CDv i j ∧ Q (.tup [.int (pdiv i j), .int (pmod i j)])
theorem opn_divmod : OpN K (fun xs H Q => ∃ i j, xs = [.int i, .int j] ∧ CDv i j ∧ ∀ p, H p = none → Q (.ref p) (upd H p (.tup [.int (i.fdiv j), .int (i.fmod j)]))) sDivmod := OpN.mk fun G H ds vs F Q Q' hs r q k => by
  obtain ⟨i, j, rfl, hc, q⟩ := q
  obtain ⟨v, w, F1, F2, rfl, ⟨rfl, _⟩, ⟨rfl, _⟩⟩ := r.two
  refine ⟨i, j, rfl, hc, fun p hp => ?_⟩
  rw [pmod_eq, pdiv_eq]
  exact k _ _ _ (.tup (ys := [.int (pdiv i j), .int (pmod i j)]) ⟨_, _, [], [], rfl, rfl, ⟨rfl, rfl⟩, _, _, [], [], rfl, rfl, ⟨rfl, rfl⟩, rfl, rfl⟩ hp) q
/-! ### isinstance of the built-in types -/
def tyNm : D → Option String
  | .non => some "NoneType"
  | .bl _ => some "bool"
  | .int _ => some "int"
  | .str _ => some "str"
  | .tup _ => some "tuple"
  | .lst _ _ => some "list"
  | .dK _ _ _ => some "dict"
  | .dT _ _ _ => some "dict"
  | _ => none
def tys : List String := ["int", "bool", "str", "list", "tuple", "dict"]
/-- the type t is T, or bool as an int -/
def isT (t T : String) : Bool := t == T || (t == "bool" && T == "int")
theorem kit_tab : (("NoneType" :: tys).all fun t => tys.all fun T => decide (kitB t T = some (isT t T))) = true := by decide +kernel
theorem kit_isT {t T : String} (ht : t ∈ "NoneType" :: tys) (hT : T ∈ tys) : kitB t T = some (isT t T) :=
  of_decide_eq_true (List.all_eq_true.mp (List.all_eq_true.mp kit_tab t ht) T hT)
theorem tyNm_mem {d : D} {t : String} (h : tyNm d = some t) : t ∈ "NoneType" :: tys := by
  cases d <;> simp only [tyNm, reduceCtorEq, Option.some.injEq] at h <;> subst h <;> decide
theorem Rp.tyX (hs : Sub G H) {d : D} {v : V} {F : List Addr} {t : String} (r : Rp K G H d v F) (h : tyNm d = some t) : TyX K H v (.type t) := by
  cases d with
  | non => cases h; obtain ⟨rfl, _⟩ := r; exact .base .non
  | bl b => cases h; obtain ⟨rfl, _⟩ := r; exact .base (.bl b)
  | int i => cases h; obtain ⟨rfl, _⟩ := r; exact .base (.int i)
  | str s => cases h; obtain ⟨rfl, _⟩ := r; exact .base (.str _)
  | tup xs => cases h; obtain ⟨a, vs, rfl, s, _⟩ := r; exact .base (.tup (hs _ _ s))
  | lst m xs =>
    cases h
    cases m with
    | true => obtain ⟨a, vs, F', rfl, s, _⟩ := r; exact .base (.lst s)
    | false =>
      obtain ⟨a, vs, rfl, s, _⟩ := r
      rcases hs.sqL s with (s | ⟨o, s⟩) | ⟨o, its, n, hk, hc, _⟩
      · exact .base (.lst s)
      · exact .base (.frz s)
      · exact .kList hk hc
  | dK m ks xs =>
    cases h
    cases m with
    | true => obtain ⟨a, vs, F', rfl, s, _⟩ := r; exact .base (.dK s)
    | false =>
      obtain ⟨a, vs, rfl, s, _⟩ := r
      rcases hs.rd s with s | ⟨o, s⟩
      · exact .base (.dK s)
      · exact .fDict s
  | dT m ks xs =>
    cases h
    cases m with
    | true => obtain ⟨a, vs, F', rfl, s, _⟩ := r; exact .base (.dT s)
    | false => obtain ⟨a, vs, rfl, s, _⟩ := r; exact .base (.dT (hs _ _ s))
  | _ => cases h
def sIsi : List D → (D → Prop) → Prop := fun ds Q => ∃ x t T, ds = [x, .ty T] ∧ tyNm x = some t ∧ T ∈ tys ∧ Q (.bl (isT t T))
theorem opn_isi : OpN K (rIsi K) sIsi := OpN.mk fun G H ds vs F Q Q' hs r q k => by
  obtain ⟨x, t, T, rfl, ht, hT, q⟩ := q
  obtain ⟨v, w, F1, F2, rfl, rx, ⟨rfl, _⟩⟩ := r.two
  exact ⟨v, .ty T, .type t, .type T, isT t T, rfl, .ty T, rx.tyX hs ht, kit_ty (kit_isT (tyNm_mem ht) hT), k _ _ _ (nwB _) q⟩
/-! ### list(x), tuple(x), dict(x) -/
def listD : D → Option (List D)
  | .dK _ ks _ => some (ks.map fun | .inl i => .int i | .inr s => .str s)
  | d => seqD d
def rListA (K : PySem.W.Frag) : List V → Hp → VK → Prop := fun xs H Q => (∃ p ys, xs = [.ref p] ∧ (SqL K H p ys ∨ SqT K H p ys) ∧ ∀ l, H l = none → Q (.ref l) (upd H l (.lst ys))) ∨
  ∃ (a : Addr) (kvs : List (Key × V)), xs = [.ref a] ∧ Rd H a (.dK kvs) ∧ ∀ p, H p = none → Q (.ref p) (upd H p (.lst (kvs.map fun kv => kV kv.1)))
theorem call_listA {X : Cx} (hc : X.calm = true) : CallR X (.type "list") (rListA X.K) := CallR.or call_list_of (call_listD hc)
def sList : List D → (D → Prop) → Prop := fun ds Q => ∃ x ys, ds = [x] ∧ listD x = some ys ∧ isFzL ys = true ∧ Q (.lst true ys)
theorem keys_rp : ∀ {ks : List Kc} {us : List V}, ks.length = us.length → RpL K G H (ks.map fun | .inl i => .int i | .inr s => .str s) ((kzip ks us).map fun kv => kV kv.1) []
  | [], [], _ => ⟨rfl, rfl⟩
  | k :: ks, u :: us, h => by
    refine ⟨_, _, [], [], rfl, rfl, ?_, keys_rp (ks := ks) (us := us) (Nat.succ.inj h)⟩
    cases k with
    | inl i => exact ⟨rfl, rfl⟩
    | inr s => exact ⟨rfl, rfl⟩
  | [], _ :: _, h => by cases h
  | _ :: _, [], h => by cases h
theorem opn_list : OpN K (rListA K) sList := OpN.mk fun G H ds vs F Q Q' hs r q k => by
  obtain ⟨x, ys, rfl, hy, hf, q⟩ := q
  obtain ⟨v, rfl, rx⟩ := r.one'
  have seq : VL.seqD x = some ys → rListA K [v] H Q' := fun h => by
    obtain ⟨p, us, F', rfl, hq, rl⟩ := rx.seqD hs h
    have := rl.fz hf; subst this
    exact .inl ⟨p, us, rfl, hq, fun l hl => k _ _ _ (.lst rl hl) q⟩
  cases x with
  | dK m ks xs =>
    cases hy
    have : ∃ a us F', v = .ref a ∧ Rd H a (.dK (kzip ks us)) ∧ ks.length = xs.length ∧ RpL K G H xs us F' := by
      cases m with
      | false => obtain ⟨a, us, e, s, _, l, _, r⟩ := rx; exact ⟨a, us, _, e, hs.rd s, l, r⟩
      | true => obtain ⟨a, us, F', e, s, _, l, _, r⟩ := rx; exact ⟨a, us, _, e, .inl s, l, r⟩
    obtain ⟨a, us, F', rfl, e, l, rl⟩ := this
    exact .inr ⟨a, _, rfl, e, fun p hp => k _ _ _ (.lst (keys_rp (l.trans rl.len)) hp) q⟩
  | _ => exact seq hy
def sTuple : List D → (D → Prop) → Prop := fun ds Q => ∃ x ys, ds = [x] ∧ seqD x = some ys ∧ isFzL ys = true ∧ Q (.tup ys)
theorem opn_tuple : OpN K (fun xs H Q => ∃ p ys, xs = [.ref p] ∧ ((SqL K H p ys ∧ ∀ l, H l = none → Q (.ref l) (upd H l (.tup ys))) ∨ (SqT K H p ys ∧ Q (.ref p) H))) sTuple := OpN.mk fun G H ds vs F Q Q' hs r q k => by
  obtain ⟨x, ys, rfl, hy, hf, q⟩ := q
  obtain ⟨v, rfl, rx⟩ := r.one'
  cases x with
  | lst m xs =>
    cases hy
    have : ∃ a us, v = .ref a ∧ SqL K H a us ∧ RpL K G H ys us [] := by
      cases m with
      | false => obtain ⟨a, us, e, s, _, r⟩ := rx; exact ⟨a, us, e, hs.sqL s, r⟩
      | true => obtain ⟨a, us, F', e, s, _, r⟩ := rx; have := r.fz hf; subst this; exact ⟨a, us, e, SqL.of s, r⟩
    obtain ⟨a, us, rfl, s, r⟩ := this
    exact ⟨a, us, rfl, .inl ⟨s, fun l hl => k _ _ _ (.tup r hl) q⟩⟩
  | tup xs =>
    cases hy
    obtain ⟨a, us, rfl, s, r⟩ := rx
    have := r.fz hf; subst this
    exact ⟨a, us, rfl, .inr ⟨SqT.of (hs _ _ s), k (.tup ys) _ _ (.val fun G' H' s' => ⟨a, us, rfl, s' _ _ s, r.mono s' fun _ z => nomatch z⟩) q⟩⟩
  | _ => cases hy
def sDict : List D → (D → Prop) → Prop := fun ds Q => ∃ m ks ys, ds = [.dK m ks ys] ∧ isFzL ys = true ∧ Q (.dK true ks ys)
theorem opn_dict : OpN K (fun xs H Q => ∃ (a : Addr) (kvs : List (Key × V)), xs = [.ref a] ∧ Rd H a (.dK kvs) ∧ ∀ p, H p = none → Q (.ref p) (upd H p (.dK kvs))) sDict := OpN.mk fun G H ds vs F Q Q' hs r q k => by
  obtain ⟨m, ks, ys, rfl, hf, q⟩ := q
  obtain ⟨v, rfl, rx⟩ := r.one'
  have : ∃ a us, v = .ref a ∧ Rd H a (.dK (kzip ks us)) ∧ ks.length = ys.length ∧ ks.Nodup ∧ RpL K G H ys us [] := by
    cases m with
    | false => obtain ⟨a, us, e, s, _, l, n, r⟩ := rx; exact ⟨a, us, e, hs.rd s, l, n, r⟩
    | true => obtain ⟨a, us, F', e, s, _, l, n, r⟩ := rx; have := r.fz hf; subst this; exact ⟨a, us, e, .inl s, l, n, r⟩
  obtain ⟨a, us, rfl, e, l, n, rl⟩ := this
  exact ⟨a, _, rfl, e, fun p hp => k _ _ _ (.dK rl hp l n) q⟩
/-! ### min, max, int, str -/
def sMin : List D → (D → Prop) → Prop := fun ds Q => ∃ i j : Int, ds = [.int i, .int j] ∧ Q (.int (min i j))
def sMax : List D → (D → Prop) → Prop := fun ds Q => ∃ i j : Int, ds = [.int i, .int j] ∧ Q (.int (max i j))
theorem opn_min : OpN K (fun xs H Q => ∃ i j, xs = [.int i, .int j] ∧ Q (.int (if j < i then j else i)) H) sMin := OpN.mk fun G H ds vs F Q Q' hs r q k => by
  obtain ⟨i, j, rfl, q⟩ := q
  obtain ⟨v, w, F1, F2, rfl, ⟨rfl, _⟩, ⟨rfl, _⟩⟩ := r.two
  refine ⟨i, j, rfl, ?_⟩
  have e : (if j < i then j else i) = min i j := by split <;> omega
  rw [e]
  exact k _ _ _ (nwI _) q
theorem opn_max : OpN K (fun xs H Q => ∃ i j, xs = [.int i, .int j] ∧ Q (.int (if j > i then j else i)) H) sMax := OpN.mk fun G H ds vs F Q Q' hs r q k => by
  obtain ⟨i, j, rfl, q⟩ := q
  obtain ⟨v, w, F1, F2, rfl, ⟨rfl, _⟩, ⟨rfl, _⟩⟩ := r.two
  refine ⟨i, j, rfl, ?_⟩
  have e : (if j > i then j else i) = max i j := by split <;> omega
  rw [e]
  exact k _ _ _ (nwI _) q
def sInt : List D → (D → Prop) → Prop := fun ds Q => (∃ i, ds = [.int i] ∧ Q (.int i)) ∨ ∃ b, ds = [.bl b] ∧ Q (.int (if b then 1 else 0))
theorem opn_int : OpN K (fun xs H Q => (∃ i, xs = [.int i] ∧ Q (.int i) H) ∨ ∃ k, xs = [.bl k] ∧ Q (.int (if k then 1 else 0)) H) sInt := OpN.mk fun G H ds vs F Q Q' hs r q k => by
  rcases q with ⟨i, rfl, q⟩ | ⟨b, rfl, q⟩
  · obtain ⟨v, rfl, rfl, _⟩ := r.one'
    exact .inl ⟨i, rfl, k _ _ _ (nwI _) q⟩
  · obtain ⟨v, rfl, rfl, _⟩ := r.one'
    exact .inr ⟨b, rfl, k _ _ _ (nwI _) q⟩
/-! ### the truth of a value -/
def truD : D → Option Bool
  | .non => some false
  | .bl b => some b
  | .int i => some (i != 0)
  | .str s => if s.length < 1000000 then some (!s.isEmpty) else none
  | .lst _ xs => some (!xs.isEmpty)
  | .tup xs => some (!xs.isEmpty)
  | .dK true _ xs => some (!xs.isEmpty)
  | _ => none
theorem isE {xs : List D} {us : List V} {F : List Addr} (r : RpL K G H xs us F) : us.isEmpty = xs.isEmpty := by
  have := r.len
  cases xs <;> cases us <;> first | rfl | simp at this
theorem Rp.tru (hs : Sub G H) {d : D} {v : V} {F : List Addr} {c : Bool} (r : Rp K G H d v F) (h : truD d = some c) : TruV K v H c := by
  cases d with
  | non => cases h; obtain ⟨rfl, _⟩ := r; exact rfl
  | bl b => cases h; obtain ⟨rfl, _⟩ := r; exact rfl
  | int i => cases h; obtain ⟨rfl, _⟩ := r; exact rfl
  | str s =>
    have h : (if s.length < 1000000 then some (!s.isEmpty) else none) = some c := h
    by_cases hz : s.length < 1000000
    · rw [if_pos hz] at h
      cases h
      obtain ⟨rfl, _⟩ := r
      refine ⟨by rw [toS_len]; exact Nat.le_of_lt (k1m hz), ?_⟩
      rw [toS_len]
      cases s with
      | nil => rfl
      | cons a s =>
        have : ((((a :: s).length : Nat) : Int) != 0) = true := by
          rw [bne_iff_ne]
          simp only [List.length_cons]
          omega
        rw [this]
        rfl
    · rw [if_neg hz] at h; cases h
  | lst m xs =>
    cases h
    obtain ⟨p, us, F', rfl, hq, rl⟩ := r.seqD hs rfl
    rcases hq with hq | hq
    · exact .inl ⟨us, hq, by rw [isE rl]⟩
    · exact .inr (.inl ⟨us, hq, by rw [isE rl]⟩)
  | tup xs =>
    cases h
    obtain ⟨p, us, F', rfl, hq, rl⟩ := r.seqD hs rfl
    rcases hq with hq | hq
    · exact .inl ⟨us, hq, by rw [isE rl]⟩
    · exact .inr (.inl ⟨us, hq, by rw [isE rl]⟩)
  | dK m ks xs =>
    cases m with
    | false => cases h
    | true =>
    cases h
    obtain ⟨a, us, F', rfl, e, _, l, _, rl⟩ := r
    refine .inr (.inr ⟨_, e, ?_⟩)
    have h1 := kzip_len (l.trans rl.len)
    have h2 := rl.len
    have h3 : (kzip ks us).isEmpty = xs.isEmpty := by
      rw [Bool.eq_iff_iff, List.isEmpty_iff, List.isEmpty_iff, ← List.length_eq_zero_iff, ← List.length_eq_zero_iff]
      omega
    rw [h3]
  | _ => cases h
end
section
variable {X : Cv}
def vTru (t : VTE) : VTT := fun N ε Q => t N ε fun d ε1 => ∃ c, truD d = some c ∧ Q c ε1
theorem vt_tru {e : Expr} {t : VTE} (h : VE X e t) (he : ∀ whole, isTrue e X.env whole = (do let v ← whole; standAt e.pos; holding [v] (truthy v)) := by intro _; rfl) : VT X e (vTru t) := by
  obtain ⟨t', h1, h2⟩ := h.ex
  refine ⟨fun W => fun σ H Q => t' W σ H fun x H' => ∃ k, TruV X.K x H' k ∧ Q k H', fun W tk => pt_truth (h1 W tk) he, fun b σ H ε T Tv W N Q Q' I q k x => ?_⟩
  refine h2 b σ H ε T Tv W N _ _ I q (fun d v ε1 H1 J z => ?_) x
  obtain ⟨c, hc, z⟩ := z
  obtain ⟨G, F, su, rv⟩ := J.last I.lenT
  exact ⟨c, rv.tru su hc, k c ε1 H1 (J.pop I.lenT) z⟩
/-- while x, if x: a list of our own in a slot -/
def vTruN (i : Nat) : VTT := fun _ ε Q => ∃ d c, ε[i]? = some (some d) ∧ truD d = some c ∧ Q c ε
theorem vt_truN {i : Nat} {x : Str} {pos : Pos} (hN : X.N[i]? = some x) (hv : Vis X.env.scope x) (hd : (x == ("__debug__" : Str)) = false := by decide) (hcd : (x == ("__classdict__" : Str)) = false := by decide) (he : ∀ whole, isTrue (.Name x pos) X.env whole = (do let v ← whole; standAt (Expr.Name x pos).pos; holding [v] (truthy v)) := by intro _; rfl) : VT X (.Name x pos) (vTruN i) := by
  refine ⟨fun W => fun σ H Q => tVar i σ H fun x H' => ∃ k, TruV X.K x H' k ∧ Q k H', fun W tk => pt_truth (pe_var hN hv hd hcd) he, fun b σ H ε T Tv W N Q Q' I q k x => ?_⟩
  obtain ⟨d, c, e, hc, q⟩ := q
  obtain ⟨v, hs, J⟩ := I.mov e
  obtain ⟨G, F, su, rv⟩ := J.last I.lenT
  exact ⟨v, hs, c, rv.tru su hc, k c ε H I q⟩
/-- a built-in type by its name -/
theorem ve_ty {x : Str} {T : String} {pos : Pos} (hg : Gl X.toCx x) (hm : X.mg x = none) (hv : bootBuiltins x = some (.type T)) (hn : x ≠ "__name__" := by decide) (hd : (x == ("__debug__" : Str)) = false := by decide) : VE X (.Name x pos) (vC (.ty T)) :=
  vc_of (pe_bltn hg hm hv (v := .ty T) rfl hn hd) fun _ _ => ⟨rfl, rfl⟩
theorem vq_ty {x : Str} {T : String} {pos : Pos} (hg : Gl X.toCx x) (hm : X.mg x = none) (hv : bootBuiltins x = some (.type T)) (hn : x ≠ "__name__" := by decide) (hd : (x == ("__debug__" : Str)) = false := by decide) : VQ X (.Name x pos) (vC (.ty T)) :=
  vq_of (pe_bltn hg hm hv (v := .ty T) rfl hn hd) fun _ _ => ⟨rfl, rfl⟩
end
end VL
/-! VL16: list comprehensions. -/
namespace VL
open PySem PySem.Spec PyProof.Rows L2 VL
/-! ### slots forgotten, slots moved out -/
def forgetE : List Nat → Ep → Ep
  | [], ε => ε
  | i :: is, ε => forgetE is (ε.set i none)
def pull : List Nat → Ep → List (Option Nat) × List D × Ep
  | [], ε => ([], [], ε)
  | i :: is, ε => match ε[i]? with
    | some (some d) => let r := pull is (ε.set i none); (some i :: r.1, d :: r.2.1, r.2.2)
    | _ => pull is ε
theorem wipe_get {σ : L2.St} {j : Nat} : ∀ {vs : List Nat}, (wipe σ vs)[j]? = if j ∈ vs then (σ[j]?).map fun _ => none else σ[j]?
  | [] => by simp [wipe]
  | v :: vs => by
    unfold wipe
    by_cases h : v = j
    · subst h
      rw [List.getElem?_set_self', wipe_get]
      simp only [List.mem_cons, true_or, if_true]
      split <;> cases σ[v]? <;> rfl
    · rw [List.getElem?_set_ne h, wipe_get]
      have : j ≠ v := fun e => h e.symm
      simp [this]
theorem wipe_set {σ : L2.St} {i : Nat} {x : Option V} {vs : List Nat} (h : i ∈ vs) : wipe (σ.set i x) vs = wipe σ vs := by
  apply List.ext_getElem?
  intro j
  rw [wipe_get, wipe_get]
  by_cases e : i = j
  · subst e
    rw [if_pos h, if_pos h, List.getElem?_set_self']
    cases σ[i]? <;> rfl
  · rw [List.getElem?_set_ne e]
theorem wipe_wipe {σ : L2.St} {vs : List Nat} : wipe (wipe σ vs) vs = wipe σ vs := by
  apply List.ext_getElem?
  intro j
  rw [wipe_get, wipe_get]
  split
  · cases σ[j]? <;> rfl
  · rfl
section
variable {K : PySem.W.Frag} {b : Bs} {σ : L2.St} {H H' : Hp} {ε : Ep} {T : List D} {Tv : List V}
/-- a slot is told no more -/
theorem SI.forget1 (I : SI K b σ H ε T Tv) (i : Nat) : SI K b σ H (ε.set i none) T Tv := by
  by_cases hi : i < ε.length
  · obtain ⟨G, F, Ft, J⟩ := I
    obtain ⟨ov, A, B, C, hs, rfl, r, back⟩ := J.slots.focus (i := i) (List.getElem?_eq_getElem hi)
    have s2 := back G H none ov [] Sub.refl (fun _ _ => rfl) rfl
    rw [setSelf hs, List.append_nil] at s2
    have sb : ∀ a, a ∈ A ++ C ++ Ft → a ∈ A ++ B ++ C ++ Ft := fun a z => by
      simp only [List.mem_append] at z ⊢
      grind
    have nd : (A ++ C ++ Ft).Nodup := by
      have h1 : (A ++ B ++ C ++ Ft).Perm (B ++ (A ++ C ++ Ft)) := by
        apply List.perm_iff_count.mpr
        intro a
        simp only [List.count_append]
        omega
      exact (List.nodup_append.mp (h1.nodup_iff.mp J.nd)).2.1
    exact ⟨G, _, Ft, J.s0, J.sub, s2, J.temps, nd, fun a z => J.fr a (sb a z), fun a z => J.own a (sb a z), J.gn, J.keep, J.kept⟩
  · rw [List.set_eq_of_length_le (by omega)]
    exact I
theorem SI.forget : ∀ {is : List Nat} {ε : Ep}, SI K b σ H ε T Tv → SI K b σ H (forgetE is ε) T Tv
  | [], ε, I => I
  | i :: is, ε, I => SI.forget (is := is) (I.forget1 i)
theorem forgetE_get {j : Nat} : ∀ {is : List Nat} {ε : Ep}, (forgetE is ε)[j]? = if j ∈ is then (ε[j]?).map fun _ => none else ε[j]?
  | [], ε => by simp [forgetE]
  | i :: is, ε => by
    unfold forgetE
    rw [forgetE_get]
    by_cases h : i = j
    · subst h
      simp only [List.mem_cons, true_or, if_true, List.getElem?_set_self']
      split <;> cases ε[i]? <;> rfl
    · rw [List.getElem?_set_ne h]
      have : j ≠ i := fun e => h e.symm
      simp [this]
theorem SI.pull (hl : T.length = Tv.length) : ∀ {is : List Nat} {ε : Ep} {R : List D} {Rv : List V}, R.length = Rv.length → SI K b σ H ε (T ++ R) (Tv ++ Rv) →
    ∃ vs, SI K b σ H (VL.pull is ε).2.2 (T ++ (R ++ (VL.pull is ε).2.1)) (Tv ++ (Rv ++ vs)) ∧ Held σ (VL.pull is ε).1 vs ∧ (VL.pull is ε).2.1.length = vs.length ∧ (∀ j, (VL.pull is ε).2.2[j]? = if j ∈ is then (ε[j]?).map fun _ => none else ε[j]?)
  | [], ε, R, Rv, hr, I => ⟨[], by simpa [VL.pull] using I, trivial, rfl, fun j => by simp [VL.pull]⟩
  | i :: is, ε, R, Rv, hr, I => by
    unfold VL.pull
    cases e : ε[i]? with
    | none =>
      obtain ⟨vs, J, hh, hl2, hg⟩ := SI.pull hl (is := is) hr I
      refine ⟨vs, J, hh, hl2, fun j => ?_⟩
      show (VL.pull is ε).2.2[j]? = _
      rw [hg]
      by_cases h : j = i
      · subst h
        rw [e]
        simp
      · simp [h]
    | some od =>
      cases od with
      | none =>
        obtain ⟨vs, J, hh, hl2, hg⟩ := SI.pull hl (is := is) hr I
        refine ⟨vs, J, hh, hl2, fun j => ?_⟩
        show (VL.pull is ε).2.2[j]? = _
        rw [hg]
        by_cases h : j = i
        · subst h
          rw [e]
          simp
        · simp [h]
      | some d =>
        obtain ⟨v, hs, J⟩ := I.mov e
        obtain ⟨vs, J2, hh, hl2, hg⟩ := SI.pull hl (is := is) (R := R ++ [d]) (Rv := Rv ++ [v]) (by simp [hr]) (by simpa only [List.append_assoc] using J)
        refine ⟨v :: vs, ?_, ⟨hs, hh⟩, by simp [hl2], fun j => ?_⟩
        · simpa only [List.append_assoc, List.cons_append, List.nil_append] using J2
        · show (VL.pull is (ε.set i none)).2.2[j]? = _
          rw [hg]
          by_cases h : i = j
          · subst h
            simp only [List.mem_cons, true_or, if_true, List.getElem?_set_self']
            split <;> cases ε[i]? <;> rfl
          · rw [List.getElem?_set_ne h]
            have : j ≠ i := fun e => h e.symm
            simp [this]
/-- slots that are not told may hold anything -/
theorem RpS.reslot {G : Hp} : ∀ {ε : Ep} {σ σ' : L2.St} {F : List Addr}, RpS K G H ε σ F → σ'.length = σ.length → (∀ (j : Nat) d, ε[j]? = some (some d) → σ'[j]? = σ[j]?) → RpS K G H ε σ' F
  | [], σ, σ', F, h, hl, _ => by
    obtain ⟨rfl, rfl⟩ := h
    exact ⟨List.length_eq_zero_iff.mp hl, rfl⟩
  | od :: ε, σ, σ', F, h, hl, k => by
    obtain ⟨ov, σ1, F1, F2, rfl, rfl, r, rs⟩ := h
    cases σ' with
    | nil => cases hl
    | cons ov' σ'' =>
      refine ⟨ov', σ'', F1, F2, rfl, rfl, ?_, RpS.reslot rs (Nat.succ.inj hl) fun j d e => by simpa using k (j + 1) d (by simpa using e)⟩
      cases od with
      | none => exact r
      | some d =>
        have := k 0 d rfl
        simp at this
        rw [this]
        exact r
theorem SI.reslot {σ' : L2.St} (I : SI K b σ H ε T Tv) (hl : σ'.length = σ.length) (h : ∀ (j : Nat) d, ε[j]? = some (some d) → σ'[j]? = σ[j]?) (hk : ∀ (j : Nat) v, b.kv[j]? = some (some v) → σ'[j]? = σ[j]?) : SI K b σ' H ε T Tv := by
  obtain ⟨G, F, Ft, J⟩ := I
  exact ⟨G, F, Ft, J.s0, J.sub, J.slots.reslot hl h, J.temps, J.nd, J.fr, J.own, J.gn, J.keep, fun j v e => (hk j v e).trans (J.kept j v e)⟩
/-- held things change places -/
theorem SI.swap {A B C : List D} {Av Bv Cv : List V} (I : SI K b σ H ε (T ++ (A ++ (B ++ C))) (Tv ++ (Av ++ (Bv ++ Cv)))) (hl : T.length = Tv.length) (ha : A.length = Av.length) (hb : B.length = Bv.length) : SI K b σ H ε (T ++ (B ++ (A ++ C))) (Tv ++ (Bv ++ (Av ++ Cv))) := by
  obtain ⟨G, F, Ft, J⟩ := I
  obtain ⟨F1, F2, rfl, r1, r2⟩ := J.temps.split2 hl
  obtain ⟨F3, F4, rfl, r3, r4⟩ := r2.split2 ha
  obtain ⟨F5, F6, rfl, r5, r6⟩ := r4.split2 hb
  have pm : (F ++ (F1 ++ (F3 ++ (F5 ++ F6)))).Perm (F ++ (F1 ++ (F5 ++ (F3 ++ F6)))) := by
    apply List.perm_iff_count.mpr
    intro z
    simp only [List.count_append]
    omega
  exact ⟨G, F, _, J.s0, J.sub, J.slots, r1.append (r5.append (r3.append r6)), pm.nodup_iff.mp J.nd, fun z hz => J.fr z (pm.mem_iff.mpr hz), fun z hz => J.own z (pm.mem_iff.mpr hz), J.gn, J.keep, J.kept⟩
/-- a thing is put behind the others in a held list of our own -/
theorem SI.accPush {acc : List D} {y : D} {p : Addr} {v : V} (I : SI K b σ H ε (T ++ [.lst true acc, y]) (Tv ++ [.ref p, v])) (hl : T.length = Tv.length) : ∃ vs, H p = some (.lst vs) ∧ vs.length = acc.length ∧ SI K b σ (upd H p (.lst (vs ++ [v]))) ε (T ++ [.lst true (acc ++ [y])]) (Tv ++ [.ref p]) := by
  obtain ⟨G, F, Ft, J⟩ := I
  obtain ⟨F1, F2, rfl, r1, r2⟩ := J.temps.split2 hl
  obtain ⟨v', vs1, A, B, e1, rfl, ra, v2, vs2, A2, B2, e2, rfl, rb, rfl, rfl⟩ := r2
  cases e1
  cases e2
  obtain ⟨a, us, A', ea, ha, rfl, rl⟩ := ra
  cases ea
  have nd := J.nd
  have pm : (F ++ (F1 ++ (p :: A' ++ (A2 ++ [])))).Perm (p :: (F ++ (F1 ++ (A' ++ A2)))) := by
    apply List.perm_iff_count.mpr
    intro z
    simp only [List.count_append, List.count_cons, List.cons_append, List.count_nil]
    omega
  have nd2 := pm.nodup_iff.mp nd
  have np := (List.nodup_cons.mp nd2).1
  have ev : ∀ z, z ∈ F ++ (F1 ++ (A' ++ A2)) → upd H p (.lst (us ++ [v])) z = H z := fun z hz => upd_ne fun e => np (e ▸ hz)
  have gp : G p = none := J.fr p (pm.mem_iff.mpr List.mem_cons_self)
  have pm2 : (F ++ (F1 ++ (p :: (A' ++ A2)))).Perm (p :: (F ++ (F1 ++ (A' ++ A2)))) := by
    apply List.perm_iff_count.mpr
    intro z
    simp only [List.count_append, List.count_cons]
    omega
  refine ⟨us, ha, rl.len.symm, G, F, F1 ++ (p :: (A' ++ A2)), J.s0, fun z o q => ?_, J.slots.mono Sub.refl fun z hz => ev z (List.mem_append_left _ hz), ?_, pm2.nodup_iff.mpr nd2, fun z hz => J.fr z (pm.mem_iff.mpr (pm2.mem_iff.mp hz)), fun z hz => J.own z (pm.mem_iff.mpr (pm2.mem_iff.mp hz)), J.gn, fun z o q n => ?_, J.kept⟩
  · rw [upd_ne fun e => by rw [e, gp] at q; cases q]
    exact J.sub z o q
  · refine (r1.mono Sub.refl fun z hz => ev z (List.mem_append_right _ (List.mem_append_left _ hz))).append (RpL.one.mpr ⟨p, us ++ [v], A' ++ A2, rfl, upd_same, rfl, ?_⟩)
    exact (rl.append (RpL.one.mpr rb)).mono Sub.refl fun z hz => ev z (List.mem_append_right _ (List.mem_append_right _ hz))
  · rw [upd_ne fun e => ?_]
    · exact J.keep z o q n
    · subst e
      rcases J.own z (pm.mem_iff.mpr List.mem_cons_self) with h | h
      · exact n h
      · rw [q] at h; cases h
end
/-! ### targets that store into a block's own names alone -/
section
variable {X : Cv}
structure VTo (X : Cv) (own : List Nat) (tg : Expr) (t : VTG) : Prop where
  ex : ∃ g : TG, PG X.toCx tg g ∧ ∀ (b : Bx X) σ H ε T Tv d v Q Q', SI X.K b.1 σ H ε (T ++ [d]) (Tv ++ [v]) → T.length = Tv.length → t d ε Q →
    (∀ ε' σ' H', wipe σ' own = wipe σ own → SI X.K b.1 σ' H' ε' T Tv → Q ε' → Q' σ' H') → g v σ H Q'
theorem vto_name {own : List Nat} {i : Nat} {x : Str} {pos : Pos} (ho : i ∈ own) (hN : X.N.Nodup) (hi : X.N[i]? = some x) (hx : Loc X.env.scope x) (hk : X.κ[i]? ≠ some true)
    (hf : X.fn x = true ∨ X.env.scope.names.lookup x = some .local := by first | exact .inl rfl | exact .inr rfl | assumption) : VTo X own (.Name x pos) (vName i) :=
  ⟨gName i, pg_name hN hi hx hf, fun b σ H ε T Tv d v Q Q' I l q k => k _ _ H (wipe_set ho) (I.store l q.1 (b.free hk)) q.2⟩
structure VNo (X : Cv) (own : List Nat) (ts : List Expr) (is : List Nat) : Prop where
  ex : ∃ g : TGs, PGs X.toCx ts g ∧ ∀ (b : Bx X) σ H ε T Tv ds vs (Q : Ep → Prop) (Q' : L2.St → Hp → Prop), SI X.K b.1 σ H ε (T ++ ds) (Tv ++ vs) → T.length = Tv.length → ds.length = vs.length → is.length = ds.length → (∀ i ∈ is, i < ε.length) → Q (setAll is ds ε) →
    (∀ ε' σ' H', wipe σ' own = wipe σ own → SI X.K b.1 σ' H' ε' T Tv → Q ε' → Q' σ' H') → g vs σ H Q'
theorem vno_nil {own : List Nat} : VNo X own [] [] := ⟨gNil, pgs_nil, fun b σ H ε T Tv ds vs Q Q' I l hd hi _ q k => by
  cases ds with
  | cons _ _ => cases hi
  | nil =>
    cases vs with
    | cons _ _ => cases hd
    | nil => exact ⟨rfl, k ε σ H rfl (by simpa using I) q⟩⟩
theorem vno_cons {own : List Nat} {x : Str} {pos : Pos} {es : List Expr} {i : Nat} {is : List Nat} (ho : i ∈ own) (hN : X.N.Nodup) (hi : X.N[i]? = some x) (hx : Loc X.env.scope x) (hk : X.κ[i]? ≠ some true) (h : VNo X own es is)
    (hs : (assignEach (.Name x pos :: es) X.env).map (·.2) = assign (.Name x pos) X.env :: (assignEach es X.env).map (·.2) := by rfl)
    (hf : X.fn x = true ∨ X.env.scope.names.lookup x = some .local := by first | exact .inl rfl | exact .inr rfl | assumption) : VNo X own (.Name x pos :: es) (i :: is) := by
  obtain ⟨g, h1, h2⟩ := h.ex
  refine ⟨gCons (gName i) g, pgs_cons (pg_name hN hi hx hf) h1 hs, fun b σ H ε T Tv ds vs Q Q' I l hd hn hb q k => ?_⟩
  cases ds with
  | nil => cases hn
  | cons d ds =>
    cases vs with
    | nil => cases hd
    | cons v vs =>
      refine ⟨v, vs, rfl, ?_⟩
      exact h2 b _ H _ T Tv ds vs Q Q' (SI.midStore I l (hb i List.mem_cons_self) (b.free hk)) l (Nat.succ.inj hd) (Nat.succ.inj hn) (fun j z => by rw [List.length_set]; exact hb j (List.mem_cons_of_mem _ z)) q
        fun ε' σ' H' w J z => k ε' σ' H' (w.trans (wipe_set ho)) J z
theorem vto_names {own : List Nat} {es : List Expr} {is : List Nat} {k : Nat} {pos : Pos} (hc : X.calm = true) (h : VNo X own es is)
    (hn : (assignEach es X.env).length = is.length := by rfl) (hst : (assignEach es X.env).findIdx? (·.1) = none := by rfl) : VTo X own (.Tuple es k pos) (vNames is) := by
  obtain ⟨g, h1, h2⟩ := h.ex
  refine ⟨fun v σ H Q => gTup X.K is.length g v σ H Q ∨ gLst X.K is.length g v σ H Q, ⟨fun pins s σ H v u Q I r w => ?_⟩, fun b σ H ε T Tv d v Q Q' I l q z => ?_⟩
  · rcases w with w | w
    · exact (pg_tup hc h1 hn hst).run pins s σ H v u Q I r w
    · exact (pg_lst hc h1 hn hst).run pins s σ H v u Q I r w
  · obtain ⟨ds, hd, hl, hb, q⟩ := q
    cases d with
    | tup es =>
      cases hd
      obtain ⟨a, vs, rfl, s, l2, J⟩ := I.openT l
      exact .inl ⟨a, vs, rfl, s, by rw [← l2, hl], h2 b σ H ε T Tv ds vs Q Q' J l l2 hl hb q z⟩
    | lst m es =>
      cases hd
      obtain ⟨a, vs, rfl, s, l2, J⟩ := I.openL l
      exact .inr ⟨a, vs, rfl, s, by rw [← l2, hl], h2 b σ H ε T Tv ds vs Q Q' J l l2 hl hb q z⟩
    | _ => cases hd
/-! ### the tests of a comprehension -/
structure VTs (X : Cv) (ifs : List Expr) (t : VTT) : Prop where
  ex : ∃ t' : WX → TT, (∀ W, Takes X.toCx W → PTs X.toCx ifs (t' W)) ∧ ∀ (b : Bx X) σ H ε T Tv W N Q Q', SI X.K b.1 σ H ε T Tv → t N ε Q →
    (∀ c ε' H', SI X.K b.1 σ H' ε' T Tv → Q c ε' → Q' c H') → XL X.K b.1 T Tv W N → t' W σ H Q'
def vYes : VTT := fun _ ε Q => Q true ε
theorem vts_nil : VTs X [] vYes := ⟨fun _ => tYes, fun _ _ => pts_nil, fun b σ H ε T Tv W N Q Q' I q k x => k true ε H I q⟩
theorem vts_one {c : Expr} {t : VTT} (h : VT X c t) : VTs X [c] t := by
  obtain ⟨t', h1, h2⟩ := h.ex
  exact ⟨t', fun W tk => pts_one (h1 W tk), h2⟩
/-! ### the comprehension -/
def noX : WV := fun _ _ _ => False
def vLcL (own : List Nat) (g : VTG) (tt : VTT) (te : VTE) : List D → List D → Ep → (List D → Ep → Prop) → Prop
  | [], acc, ε, Q => Q acc ε
  | d :: ds, acc, ε, Q => g d ε fun ε1 => tt noX ε1 fun c ε2 => if c = true then te noX ε2 fun y ε3 => acc.length < 1000000 ∧ vLcL own g tt te ds (acc ++ [y]) (forgetE own ε3) Q else vLcL own g tt te ds acc (forgetE own ε2) Q
def vLc (own : List Nat) (wi : VTA) (g : VTG) (tt : VTT) (te : VTE) : VTE := fun N ε Q => wi N ε fun ds ε1 => vLcL own g tt te ds [] (pull own ε1).2.2 fun acc ε' => Q (.lst true acc) (restore (pull own ε1).1 (pull own ε1).2.1 ε')
/-- a block's context -/
abbrev Cv.blk (X : Cv) (s : Shared) (H : Hp) (scope : Scope) (C : Addr) (cl : List (Str × Addr)) (fp : List Addr) : Cv := { X.toCx.blk s H scope (compEnvC scope cl C X.env) fp with κ := X.κ }
theorem takes_no {Y : Cx} : Takes Y (fun _ _ _ _ => False) := fun _ _ ⟨_, _, _, _, _, _, _, _, _, _, _, _, _, _, _, _, w⟩ => w.elim
abbrev BI : Type := Shared × Hp × Addr × List (Str × Addr) × List Addr
theorem lc_run {own : List Nat} {g : VTG} {tt : VTT} {te : VTE} {tgE elt : Expr} {ifs : List Expr} {scope : Scope}
    (hk : ∀ i ∈ own, X.κ[i]? ≠ some true)
    (hg : ∀ c : BI, VTo (X.blk c.1 c.2.1 scope c.2.2.1 c.2.2.2.1 c.2.2.2.2) own tgE g) (ht : ∀ c : BI, VTs (X.blk c.1 c.2.1 scope c.2.2.1 c.2.2.2.1 c.2.2.2.2) ifs tt) (he : ∀ c : BI, VE (X.blk c.1 c.2.1 scope c.2.2.1 c.2.2.2.1 c.2.2.2.2) elt te) :
    ∃ (g' : TG) (tt' : TT) (te' : TE), (∀ c : BI, PG (X.blk c.1 c.2.1 scope c.2.2.1 c.2.2.2.1 c.2.2.2.2).toCx tgE g') ∧ (∀ c : BI, PTs (X.blk c.1 c.2.1 scope c.2.2.1 c.2.2.2.1 c.2.2.2.2).toCx ifs tt') ∧ (∀ c : BI, PE (X.blk c.1 c.2.1 scope c.2.2.1 c.2.2.2.1 c.2.2.2.2).toCx elt te') ∧
      ∀ (b : Bx X) σ H ε T Tv R Rv ds J (Q : List D → Ep → Prop) (Q' : VK), SI X.K b.1 σ H ε (T ++ R) (Tv ++ Rv) → T.length = Tv.length → R.length = Rv.length → Wk X.K J ds R Rv → vLcL own g tt te ds [] (pull own ε).2.2 (fun acc ε' => Q acc (restore (pull own ε).1 (pull own ε).2.1 ε')) →
        (∀ acc v ε' H', SI X.K b.1 σ H' ε' (T ++ [.lst true acc]) (Tv ++ [v]) → Q acc ε' → Q' v H') →
        ∀ D, H D = none → ∃ W : Nat → Nat → Hp → Prop, (∃ m, W 0 m (upd H D (.lst []))) ∧ ∀ i m H, W i m H →
          (J.stop i H ∧ Q' (.ref D) H) ∨ (J.go i H ∧ ∃ Nx : Hp → Prop, (∀ H', Nx H' → ∃ m', m' < m ∧ W (i + 1) m' H') ∧ ∀ x H', J.yld i H x H' → g' x (wipe σ own) H' fun σ2 H2 => wipe σ2 own = wipe σ own ∧ tt' σ2 H2 fun b H3 =>
            if b = true then te' σ2 H3 fun y H4 => ∃ acc, H4 D = some (.lst acc) ∧ acc.length < sizeLine ∧ Nx (upd H4 D (.lst (acc ++ [y]))) else Nx H3) := by
  let gc : BI → TG := fun c => Classical.choose (hg c).ex
  have gs := fun c => Classical.choose_spec (hg c).ex
  let tc : BI → WX → TT := fun c => Classical.choose (ht c).ex
  have ts := fun c => Classical.choose_spec (ht c).ex
  let ec : BI → WX → TE := fun c => Classical.choose (he c).ex
  have es := fun c => Classical.choose_spec (he c).ex
  let Wn : WX := fun _ _ _ _ => False
  refine ⟨fun v σ H Q => ∀ c, gc c v σ H Q, fun σ H Q => ∀ c, tc c Wn σ H Q, fun σ H Q => ∀ c, ec c Wn σ H Q, fun c => ⟨fun pins s σ H v u Q I r w => (gs c).1.run pins s σ H v u Q I r (w c)⟩, fun c => ⟨fun pins s σ H Q I w => ((ts c).1 Wn takes_no).run pins s σ H Q I (w c)⟩, fun c => ⟨fun pins s σ H Q I w => ((es c).1 Wn takes_no).run pins s σ H Q I (w c)⟩, ?_⟩
  intro b σ H ε T Tv R Rv ds J Q Q' I hl hr wk q k D nD
  obtain ⟨pv, Ip, hh, lp, pg⟩ := SI.pull hl (is := own) hr I
  generalize hpr : pull own ε = pr at q Ip hh lp pg
  obtain ⟨rs, pd, ε0⟩ := pr
  simp only at q Ip hh lp pg
  have hlR : (T ++ (R ++ pd)).length = (Tv ++ (Rv ++ pv)).length := by simp [hl, hr, lp]
  -- the slots of the block's own names hold nothing
  have xl : ∀ {T : List VL.D} {Tv : List V}, XL X.K b.1 T Tv Wn noX := fun _ _ _ _ _ _ _ _ _ _ z => z.elim
  have wipeI : ∀ {H : Hp} {ε2 : Ep} {T : List VL.D} {Tv : List V} {σ2 : L2.St}, (∀ i ∈ own, ∀ d, ε2[i]? ≠ some (some d)) → wipe σ2 own = wipe σ own → SI X.K b.1 σ2 H ε2 T Tv → SI X.K b.1 (wipe σ own) H ε2 T Tv := by
    intro H ε2 T Tv σ2 hn hw I
    have key : ∀ j, j ∉ own → (wipe σ own)[j]? = σ2[j]? := fun j hj => by
      rw [← hw, wipe_get, if_neg hj]
    refine I.reslot (by rw [← hw, wipe_length]) (fun j d e => key j fun hj => hn j hj d e) fun j v e => key j fun hj => b.free (hk j hj) v e
  have unwipe : ∀ {H : Hp} {ε2 : Ep} {T : List VL.D} {Tv : List V}, (∀ i ∈ own, ∀ d, ε2[i]? ≠ some (some d)) → SI X.K b.1 (wipe σ own) H ε2 T Tv → SI X.K b.1 σ H ε2 T Tv := by
    intro H ε2 T Tv hn I
    have key : ∀ j, j ∉ own → σ[j]? = (wipe σ own)[j]? := fun j hj => by
      rw [wipe_get, if_neg hj]
    refine I.reslot (by rw [wipe_length]) (fun j d e => key j fun hj => hn j hj d e) fun j v e => key j fun hj => b.free (hk j hj) v e
  have fn : ∀ {ε : Ep}, ∀ i ∈ own, ∀ d, (forgetE own ε)[i]? ≠ some (some d) := fun {ε} i hi d e => by
    rw [forgetE_get, if_pos hi] at e
    cases h : ε[i]? <;> rw [h] at e <;> cases e
  have fn0 : ∀ i ∈ own, ∀ d, ε0[i]? ≠ some (some d) := fun i hi d e => by
    rw [pg, if_pos hi] at e
    cases h : ε[i]? <;> rw [h] at e <;> cases e
  let Iv := fun (i m : Nat) (H : Hp) => m = ds.length - i ∧ i ≤ ds.length ∧ ∃ ε2 acc, (∀ i ∈ own, ∀ d, ε2[i]? ≠ some (some d)) ∧ SI X.K b.1 (wipe σ own) H ε2 (T ++ (R ++ (pd ++ [.lst true acc]))) (Tv ++ (Rv ++ (pv ++ [.ref D]))) ∧ vLcL own g tt te (ds.drop i) acc ε2 fun acc ε' => Q acc (restore rs pd ε')
  refine ⟨Iv, ⟨ds.length, rfl, Nat.zero_le _, ε0, [], fn0, ?_, q⟩, ?_⟩
  · have I0 := wipeI fn0 rfl Ip
    have := SI.laid (ds := []) (vs := []) (T := T ++ (R ++ pd)) (Tv := Tv ++ (Rv ++ pv)) (by simpa using I0) hlR nD (.lst []) (d := .lst true []) fun G H' F e r => ⟨D, [], F, rfl, e, rfl, r⟩
    simpa only [List.append_assoc] using this
  rintro i m H2 ⟨rfl, hi, ε2, acc, hn2, I2, z2⟩
  have lpa : (pd ++ [VL.D.lst true acc]).length = (pv ++ [V.ref D]).length := by simp [lp]
  have IR : SI X.K b.1 (wipe σ own) H2 ε2 ((T ++ (pd ++ [.lst true acc])) ++ R) ((Tv ++ (pv ++ [.ref D])) ++ Rv) := by
    have := SI.swap (A := R) (B := pd ++ [.lst true acc]) (C := []) (Av := Rv) (Bv := pv ++ [.ref D]) (Cv := []) (by simpa using I2) hl hr lpa
    simpa using this
  have hl2 : (T ++ (pd ++ [VL.D.lst true acc])).length = (Tv ++ (pv ++ [V.ref D])).length := by simp [hl, lp]
  obtain ⟨go, stop⟩ := wk b.1 (wipe σ own) H2 ε2 _ _ i hl2 IR
  by_cases hlt : i < ds.length
  · right
    rw [List.drop_eq_getElem_cons hlt] at z2
    obtain ⟨g0, gy⟩ := go ds[i] (List.getElem?_eq_getElem hlt)
    refine ⟨g0, Iv (i + 1) (ds.length - (i + 1)), fun H' y => ⟨ds.length - (i + 1), by omega, y⟩, fun x H' y c => ?_⟩
    have I3 := gy x H' y
    have I4 : SI X.K b.1 (wipe σ own) H' ε2 (T ++ (R ++ ((pd ++ [.lst true acc]) ++ [ds[i]]))) (Tv ++ (Rv ++ ((pv ++ [.ref D]) ++ [x]))) :=
      SI.swap (A := pd ++ [.lst true acc]) (B := R) (C := [ds[i]]) (Av := pv ++ [.ref D]) (Bv := Rv) (Cv := [x]) (by simpa only [List.append_assoc] using I3) hl lpa hr
    have hl3 : (T ++ (R ++ (pd ++ [VL.D.lst true acc]))).length = (Tv ++ (Rv ++ (pv ++ [V.ref D]))).length := by simp [hl, hr, lp]
    refine (gs c).2 b _ H' ε2 (T ++ (R ++ (pd ++ [.lst true acc]))) (Tv ++ (Rv ++ (pv ++ [.ref D]))) ds[i] x _ _ (by simpa only [List.append_assoc] using I4) hl3 z2 fun ε3 σ3 H3 hw I5 z3 => ?_
    refine ⟨by rw [hw, wipe_wipe], fun c2 => ?_⟩
    refine (ts c2).2 b σ3 H3 ε3 _ _ Wn noX _ _ I5 z3 (fun k4 ε4 H4 I6 z4 => ?_) xl
    have hw3 : wipe σ3 own = wipe σ own := by rw [hw, wipe_wipe]
    cases k4 with
    | false => exact ⟨rfl, hlt, forgetE own ε4, acc, fn, wipeI fn hw3 I6.forget, z4⟩
    | true =>
      intro c3
      refine (es c3).2 b σ3 H4 ε4 _ _ Wn noX _ _ I6 z4 (fun yd yv ε5 H5 I7 z5 => ?_) xl
      have hl4 : (T ++ (R ++ pd)).length = (Tv ++ (Rv ++ pv)).length := hlR
      obtain ⟨vs, hv, lv, I8⟩ := SI.accPush (T := T ++ (R ++ pd)) (Tv := Tv ++ (Rv ++ pv)) (acc := acc) (y := yd) (p := D) (v := yv) (by simpa only [List.append_assoc, List.cons_append, List.nil_append] using I7) hl4
      refine ⟨vs, hv, by rw [lv]; exact k1m z5.1, rfl, hlt, forgetE own ε5, acc ++ [yd], fn, wipeI fn hw3 (SI.forget ?_), z5.2⟩
      simpa only [List.append_assoc, List.cons_append, List.nil_append] using I8
  · left
    have e : i = ds.length := by omega
    subst e
    rw [List.drop_length] at z2
    refine ⟨stop (Nat.le_refl _), ?_⟩
    have I9 := unwipe hn2 I2
    have I10 := SI.midDrops I9 hl hr
    exact k acc (.ref D) _ H2 (SI.restore hl hh lp I10) z2
theorem ve_lc {elt tg iter : Expr} {ifs : List Expr} {scope : Scope} {own : List (Str × Nat)} {pos : Pos} {wi : VTA} {g : VTG} {tt : VTT} {te : VTE} (hc : X.calm = true) (hN : X.N.Nodup) (ok : BlkOk X.N X.env.scope scope own) (hk : ∀ i ∈ own.map (·.2), X.κ[i]? ≠ some true) (hi : VI X tg iter wi)
    (hg : ∀ c : BI, VTo (X.blk c.1 c.2.1 scope c.2.2.1 c.2.2.2.1 c.2.2.2.2) (own.map (·.2)) tg g) (ht : ∀ c : BI, VTs (X.blk c.1 c.2.1 scope c.2.2.1 c.2.2.2.1 c.2.2.2.2) ifs tt) (he : ∀ c : BI, VE (X.blk c.1 c.2.1 scope c.2.2.1 c.2.2.2.1 c.2.2.2.2) elt te)
    (hs : ∀ x, foldedSetIterable iter X.env x = pure x := by intro _; rfl) : VE X (.ListComp elt [⟨tg, iter, ifs, 0⟩] scope pos) (vLc (own.map (·.2)) wi g tt te) := by
  obtain ⟨wi', w1, w2⟩ := hi.ex
  obtain ⟨g', tt', te', h1, h2, h3, run⟩ := lc_run hk hg ht he
  refine ⟨fun W => tLc (wi' W) g' tt' te' (own.map (·.2)), fun W tk => pe_lc hc hN (w1 W tk) ok (fun s H C cl fp => h1 ⟨s, H, C, cl, fp⟩) (fun s H C cl fp => h2 ⟨s, H, C, cl, fp⟩) (fun s H C cl fp => h3 ⟨s, H, C, cl, fp⟩) hs, fun b σ H ε T Tv W N Q Q' I q k x => ?_⟩
  exact w2 b σ H ε T Tv W N _ _ I q (fun ds R Rv J ε1 H1 I1 hr wk z => run b σ H1 ε1 T Tv R Rv ds J _ Q' I1 I.lenT hr wk z fun acc v ε' H' I' z' => k _ v ε' H' I' z') x
/-- name = [..] on one line -/
theorem vs_setLc {i : Nat} {y : Str} {py : Pos} {elt tg iter : Expr} {ifs : List Expr} {scope : Scope} {own : List (Str × Nat)} {pos spos : Pos} {wi : VTA} {g : VTG} {tt : VTT} {te : VTE} (hc : X.calm = true) (hN : X.N.Nodup) (ok : BlkOk X.N X.env.scope scope own) (hk : ∀ i ∈ own.map (·.2), X.κ[i]? ≠ some true) (hi : VI X tg iter wi)
    (hg : ∀ c : BI, VTo (X.blk c.1 c.2.1 scope c.2.2.1 c.2.2.2.1 c.2.2.2.2) (own.map (·.2)) tg g) (ht : ∀ c : BI, VTs (X.blk c.1 c.2.1 scope c.2.2.1 c.2.2.2.1 c.2.2.2.2) ifs tt) (he : ∀ c : BI, VE (X.blk c.1 c.2.1 scope c.2.2.1 c.2.2.2.1 c.2.2.2.2) elt te)
    (hy : X.N[i]? = some y) (hyl : X.env.scope.names.lookup y = some .local) (hky : X.κ[i]? ≠ some true) (hsw : swapsWith (.ListComp elt [⟨tg, iter, ifs, 0⟩] scope pos) (some (.Name y py)) spos.line X.env = pure true)
    (hs : ∀ x, foldedSetIterable iter X.env x = pure x := by intro _; rfl) : VS X (.Assign [.Name y py] (.ListComp elt [⟨tg, iter, ifs, 0⟩] scope pos) spos) (vAsg i (vLc (own.map (·.2)) wi g tt te)) := by
  obtain ⟨wi', w1, w2⟩ := hi.ex
  obtain ⟨g', tt', te', h1, h2, h3, run⟩ := lc_run hk hg ht he
  refine ⟨fun W => tAsg (tLc (wi' W) g' tt' te' (own.map (·.2))) (gName i), fun W tk => ps_setLc hc hN hy hyl hsw (w1 W tk) ok (fun s H C cl fp => h1 ⟨s, H, C, cl, fp⟩) (fun s H C cl fp => h2 ⟨s, H, C, cl, fp⟩) (fun s H C cl fp => h3 ⟨s, H, C, cl, fp⟩) hs, fun b σ H ε T Tv W N E I q l x => ?_⟩
  exact w2 b σ H ε T Tv W N.rx _ _ I q (fun ds R Rv J ε1 H1 I1 hr wk z => run b σ H1 ε1 T Tv R Rv ds J (fun acc ε' => i < ε'.length ∧ N.nx (ε'.set i (some (.lst true acc)))) _ I1 I.lenT hr wk z fun acc v ε' H' I' z' => l.nx _ H' _ (I'.store I.lenT z'.1 (b.free hky)) z'.2) x
end
end VL
/-! VL17: slices, d.get(k, x), dicts compared. -/
namespace VL
open PySem PySem.Spec PyProof.Rows L2 VL
/-! ### slices -/
def cutL {α : Type} (xs : List α) (lo hi : Option Int) : List α := (xs.drop (HT.sIx xs.length 0 lo)).take (HT.sIx xs.length xs.length hi - HT.sIx xs.length 0 lo)
section
variable {K : PySem.W.Frag} {G H : Hp}
theorem RpL.drop : ∀ {ds : List D} {vs : List V} (n : Nat), RpL K G H ds vs [] → RpL K G H (ds.drop n) (vs.drop n) []
  | _, _, 0, r => by simpa using r
  | [], vs, n + 1, r => by
    obtain ⟨rfl, _⟩ := r
    exact ⟨rfl, rfl⟩
  | d :: ds, vs, n + 1, r => by
    obtain ⟨v, vs', F1, F2, rfl, f, rd, rs⟩ := r
    obtain ⟨rfl, rfl⟩ := List.append_eq_nil_iff.mp f.symm
    simpa using RpL.drop n rs
theorem RpL.take : ∀ {ds : List D} {vs : List V} (n : Nat), RpL K G H ds vs [] → RpL K G H (ds.take n) (vs.take n) []
  | _, _, 0, r => by simp only [List.take_zero]; exact ⟨rfl, rfl⟩
  | [], vs, n + 1, r => by
    obtain ⟨rfl, _⟩ := r
    exact ⟨rfl, rfl⟩
  | d :: ds, vs, n + 1, r => by
    obtain ⟨v, vs', F1, F2, rfl, f, rd, rs⟩ := r
    obtain ⟨rfl, rfl⟩ := List.append_eq_nil_iff.mp f.symm
    exact ⟨v, vs'.take n, [], [], rfl, rfl, rd, RpL.take n rs⟩
theorem RpL.cut {ds : List D} {vs : List V} (r : RpL K G H ds vs []) (lo hi : Option Int) : RpL K G H (cutL ds lo hi) (cutV vs lo hi) [] := by
  unfold cutL cutV
  rw [r.len]
  exact (r.drop _).take _
theorem cutS_toS (s : Cs) (lo hi : Option Int) : cutS (toS s) lo hi = toS (cutL s lo hi) := by
  unfold cutS cutL
  rw [toS_len]
  have : (toS s).cps.toList = s := by simp [toS]
  rw [this]
  rfl
/-- a slice of a text, a list, a tuple, whose items stand still -/
def sliceD : D → Option Int → Option Int → Option D
  | .str s, lo, hi => if s.length < 1000000 then some (.str (cutL s lo hi)) else none
  | .lst _ ds, lo, hi => if isFzL ds = true then some (.lst true (cutL ds lo hi)) else none
  | .tup ds, lo, hi => if isFzL ds = true then some (.tup (cutL ds lo hi)) else none
  | _, _, _ => none
def rSlD (K : PySem.W.Frag) : V → Option Int → Option Int → Hp → VK → Prop := fun x lo hi H Q => rSlS x lo hi H Q ∨ rSlL K x lo hi H Q ∨ rSlA K x lo hi H Q
theorem sl_any {X : Cx} : SlR X (rSlD X.K) := SlR.or sl_str (SlR.or sl_list sl_tupA)
theorem sl_run (hs : Sub G H) {x d : D} {v : V} {F : List Addr} {lo hi : Option Int} {Q' : VK} (r : Rp K G H x v F) (h : sliceD x lo hi = some d) (k : ∀ v H', Nw K G H d v H' → Q' v H') : rSlD K v lo hi H Q' := by
  cases x with
  | str s =>
    have h : (if s.length < 1000000 then some (D.str (cutL s lo hi)) else none) = some d := h
    by_cases hz : s.length < 1000000
    · rw [if_pos hz] at h
      cases h
      obtain ⟨rfl, _⟩ := r
      refine .inl ⟨toS s, rfl, by rw [toS_len]; exact Nat.le_of_lt (k1m hz), ?_⟩
      rw [cutS_toS]
      exact k _ _ (nwS _)
    · rw [if_neg hz] at h; cases h
  | lst m xs =>
    have h : (if isFzL xs = true then some (D.lst true (cutL xs lo hi)) else none) = some d := h
    by_cases hf : isFzL xs = true
    · rw [if_pos hf] at h
      cases h
      have hx : ∃ a us, v = .ref a ∧ SqL K H a us ∧ RpL K G H xs us [] := by
        cases m with
        | false => obtain ⟨a, us, e, s, _, r⟩ := r; exact ⟨a, us, e, hs.sqL s, r⟩
        | true => obtain ⟨a, us, F', e, s, _, r⟩ := r; have := r.fz hf; subst this; exact ⟨a, us, e, SqL.of s, r⟩
      obtain ⟨a, us, rfl, s, r⟩ := hx
      exact .inr (.inl ⟨a, us, rfl, s, fun p hp => k _ _ (.lst (r.cut lo hi) hp)⟩)
    · rw [if_neg hf] at h; cases h
  | tup xs =>
    have h : (if isFzL xs = true then some (D.tup (cutL xs lo hi)) else none) = some d := h
    by_cases hf : isFzL xs = true
    · rw [if_pos hf] at h
      cases h
      obtain ⟨a, us, rfl, s, r⟩ := r
      have := r.fz hf; subst this
      refine .inr (.inr ⟨a, us, rfl, SqT.of (hs _ _ s), fun w => ?_, fun _ p hp => k _ _ (.tup (r.cut lo hi) hp)⟩)
      have e : cutL xs lo hi = xs := by
        unfold cutL
        rw [r.len, w.1, w.2, List.drop_zero, Nat.sub_zero, ← r.len, List.take_length]
      rw [e] at k
      exact k _ _ (.val fun G' H' s' => ⟨a, us, rfl, s' _ _ s, r.mono s' fun _ z => nomatch z⟩)
    · rw [if_neg hf] at h; cases h
  | _ => cases h
end
/-- a slice's part -/
abbrev VTO := WV → Ep → (Option Int → Ep → Prop) → Prop
section
variable {X : Cv}
structure VO (X : Cv) (e : Option Expr) (t : VTO) : Prop where
  ex : ∃ t' : WX → TO, (∀ W, Takes X.toCx W → PO X.toCx e (t' W)) ∧ ∀ (b : Bx X) σ H ε T Tv W N (Q : Option Int → Ep → Prop) (Q' : Option Int → Hp → Prop), SI X.K b.1 σ H ε T Tv → t N ε Q →
    (∀ o ε' H', SI X.K b.1 σ H' ε' T Tv → Q o ε' → Q' o H') → XL X.K b.1 T Tv W N → t' W σ H Q'
def vNoPart : VTO := fun _ ε Q => Q none ε
def vPart (t : VTE) : VTO := fun N ε Q => t N ε fun d ε1 => ∃ i, d = .int i ∧ Q (some i) ε1
theorem vo_none : VO X none vNoPart := ⟨fun _ => tNoPart, fun _ _ => po_none, fun b σ H ε T Tv W N Q Q' I q k x => k none ε H I q⟩
theorem vo_some {e : Expr} {t : VTE} (h : VE X e t) : VO X (some e) (vPart t) := by
  obtain ⟨t', h1, h2⟩ := h.ex
  refine ⟨fun W => tPart (t' W), fun W tk => po_some (h1 W tk), fun b σ H ε T Tv W N Q Q' I q k x => ?_⟩
  refine h2 b σ H ε T Tv W N _ _ I q (fun d v ε1 H1 J z => ?_) x
  obtain ⟨i, rfl, z⟩ := z
  obtain ⟨G, F, _, rv, _⟩ := J.last I.lenT
  exact ⟨i, rv, k (some i) ε1 H1 (J.pop I.lenT) z⟩
def vSl (r : Option Nat) (t : VTE) (tl th : VTO) : VTE := fun N ε Q => t N ε fun x ε1 => tl N ε1 fun lo ε2 => th N ε2 fun hi ε3 => ∃ d, sliceD x lo hi = some d ∧ Q d (restore [r] [x] ε3)
theorem ve_slice {e : Expr} {lo hi : Option Expr} {r : Option Nat} {t : VTE} {tl th : VTO} {pos p2 : Pos} (h : VG X e r t) (hl : VO X lo tl) (hh : VO X hi th) : VE X (.Subscript e (.Slice lo hi none p2) pos) (vSl r t tl th) := by
  obtain ⟨t', a1, a2⟩ := h.ex
  obtain ⟨l', b1, b2⟩ := hl.ex
  obtain ⟨h', c1, c2⟩ := hh.ex
  refine ⟨fun W => tSl (rSlD X.K) (t' W) (l' W) (h' W), fun W tk => pe_slice sl_any (a1 W tk) (b1 W tk) (c1 W tk), fun b σ H ε T Tv W N Q Q' I q k x => ?_⟩
  refine a2 b σ H ε T Tv W N _ _ I q (fun d v ε1 H1 J hd z => ?_) x
  refine b2 b σ H1 ε1 _ _ W N _ _ J z (fun o1 ε2 H2 J2 z2 => ?_) (x.more I.lenT rfl)
  refine c2 b σ H2 ε2 _ _ W N _ _ J2 z2 (fun o2 ε3 H3 J3 z3 => ?_) (x.more I.lenT rfl)
  obtain ⟨y, hy, z3⟩ := z3
  have op : OpN X.K (fun vs H Q => ∃ v, vs = [v] ∧ rSlD X.K v o1 o2 H Q) (fun ds Q => ∃ x d, ds = [x] ∧ sliceD x o1 o2 = some d ∧ Q d) := OpN.mk fun G H ds vs F Q Q' hs r q k => by
    obtain ⟨x, d, rfl, h, q⟩ := q
    obtain ⟨v, rfl, rx⟩ := r.one'
    exact ⟨v, rfl, sl_run hs rx h fun v H' nw => k d v H' nw q⟩
  obtain ⟨v', e', z'⟩ := op.run (ds := [d]) (vs := [v]) (rs := [r]) (Q := Q) (Q' := Q') I.lenT rfl J3 hd ⟨d, y, rfl, hy, z3⟩ k
  obtain ⟨rfl, _⟩ := List.cons.inj e'
  exact z'
/-- xs[::-1] -/
def sRev : List D → (D → Prop) → Prop := fun ds Q => ∃ m xs, ds = [.lst m xs] ∧ isFzL xs = true ∧ Q (.lst true xs.reverse)
theorem RpL.rev {K : PySem.W.Frag} {G H : Hp} : ∀ {ds : List D} {vs : List V}, RpL K G H ds vs [] → RpL K G H ds.reverse vs.reverse []
  | [], vs, r => by
    obtain ⟨rfl, _⟩ := r
    exact ⟨rfl, rfl⟩
  | d :: ds, vs, r => by
    obtain ⟨v, vs', F1, F2, rfl, f, rd, rs⟩ := r
    obtain ⟨rfl, rfl⟩ := List.append_eq_nil_iff.mp f.symm
    rw [List.reverse_cons, List.reverse_cons]
    have := (RpL.rev rs).append (RpL.one.mpr rd)
    simpa using this
theorem ve_rev {e : Expr} {r : Option Nat} {t : VTE} {k0 : Nat} {p1 p2 p3 pos : Pos} (h : VG X e r t) : VE X (.Subscript e (.Slice none none (some (.UnaryOp .USub (.Constant (.int 1) k0 p1) p2)) p3) pos) (vOp sRev [r] (va1 t)) := by
  obtain ⟨t', a1, a2⟩ := h.ex
  refine ⟨fun W => tRevL X.K (t' W), fun W tk => pe_revL (a1 W tk), fun b σ H ε T Tv W N Q Q' I q k x => ?_⟩
  refine a2 b σ H ε T Tv W N _ _ I q (fun d v ε1 H1 J hd z => ?_) x
  have op : OpN X.K (fun vs H Q => ∃ x, vs = [x] ∧ ∃ a xs, x = .ref a ∧ SqL X.K H a xs ∧ ∀ p, H p = none → Q (.ref p) (upd H p (.lst xs.reverse))) sRev := OpN.mk fun G H ds vs F Q Q' hs r q k => by
    obtain ⟨m, xs, rfl, hf, q⟩ := q
    obtain ⟨v, rfl, rx⟩ := r.one'
    have hx : ∃ a us, v = .ref a ∧ SqL X.K H a us ∧ RpL X.K G H xs us [] := by
      cases m with
      | false => obtain ⟨a, us, e, s, _, r⟩ := rx; exact ⟨a, us, e, hs.sqL s, r⟩
      | true => obtain ⟨a, us, F', e, s, _, r⟩ := rx; have := r.fz hf; subst this; exact ⟨a, us, e, SqL.of s, r⟩
    obtain ⟨a, us, rfl, s, rl⟩ := hx
    exact ⟨_, rfl, a, us, rfl, s, fun p hp => k _ _ _ (.lst rl.rev hp) q⟩
  obtain ⟨v', e', z'⟩ := op.run (ds := [d]) (vs := [v]) (rs := [r]) (Q := Q) (Q' := Q') I.lenT rfl J hd z k
  obtain ⟨rfl, _⟩ := List.cons.inj e'
  exact z'
/-! ### d.get(k, x) -/
/-- the value at a key, or x -/
def dget2D (c k x : D) : Option D := match c with
  | .dK _ ks ds => (keyD k).bind fun k => match kIx ks k with | some j => ds[j]? | none => some x
  | .dT _ ks ds => (keyT k).bind fun k => match kIx ks k with | some j => ds[j]? | none => some x
  | _ => none
def isDct : D → Bool
  | .dK _ _ _ => true
  | .dT _ _ _ => true
  | _ => false
def sDGet2 : List D → (D → Prop) → Prop := fun ds Q => ∃ c k x d, ds = [c, k, x] ∧ isFz x = true ∧ dget2D c k x = some d ∧ isFz d = true ∧ Q d
theorem isD_run {K : PySem.W.Frag} {G H : Hp} (hs : Sub G H) {c : D} {v : V} {F : List Addr} (r : Rp K G H c v F) (h : isDct c = true) : ∃ a, v = .ref a ∧ IsD H a := by
  cases c with
  | dK m ks xs =>
    cases m with
    | true => obtain ⟨a, vs, F', rfl, s, _⟩ := r; exact ⟨a, rfl, .inl ⟨_, .inl s⟩⟩
    | false => obtain ⟨a, vs, rfl, s, _⟩ := r; exact ⟨a, rfl, .inl ⟨_, hs.rd s⟩⟩
  | dT m ks xs =>
    cases m with
    | true => obtain ⟨a, vs, F', rfl, s, _⟩ := r; exact ⟨a, rfl, .inr ⟨_, .inl s⟩⟩
    | false => obtain ⟨a, vs, rfl, s, _⟩ := r; exact ⟨a, rfl, .inr ⟨_, .inl (hs _ _ s)⟩⟩
  | _ => cases h
theorem dget2_run {K : PySem.W.Frag} {G H : Hp} (hs : Sub G H) {c k x d : D} {v w u : V} {F1 F2 F3 : List Addr} (rc : Rp K G H c v F1) (rk : Rp K G H k w F2) (rx : Rp K G H x u F3) (hx : isFz x = true) (h : dget2D c k x = some d) (z : isFz d = true) :
    ∃ a o, v = .ref a ∧ DGet H a w o ∧ Rp K G H d (o.getD u) [] := by
  have := rx.fz hx
  subst this
  cases c with
  | dK m ks xs =>
    have : ∃ a us F', v = .ref a ∧ Rd H a (.dK (kzip ks us)) ∧ ks.length = xs.length ∧ RpL K G H xs us F' := by
      cases m with
      | false => obtain ⟨a, us, e, s, _, l, _, r⟩ := rc; exact ⟨a, us, _, e, hs.rd s, l, r⟩
      | true => obtain ⟨a, us, F', e, s, _, l, _, r⟩ := rc; exact ⟨a, us, _, e, .inl s, l, r⟩
    obtain ⟨a, us, F', rfl, e, l, rl⟩ := this
    have h : ((keyD k).bind fun k => match kIx ks k with | some j => xs[j]? | none => some x) = some d := h
    cases hk : keyD k with
    | none => rw [hk] at h; cases h
    | some k0 =>
      rw [hk] at h
      obtain ⟨rfl, _⟩ := rk.keyD hk
      have dg : DGet H a (kV (kc k0)) (valV (kzip ks us) (kc k0)) := .inl ⟨_, _, e, rfl, rfl⟩
      rw [kzip_val (l.trans rl.len)] at dg
      refine ⟨a, _, rfl, dg, ?_⟩
      have h : (match kIx ks k0 with | some j => xs[j]? | none => some x) = some d := h
      cases hj : kIx ks k0 with
      | none =>
        rw [hj] at h
        cases h
        exact rx
      | some j =>
        rw [hj] at h
        obtain ⟨y, hy, ry⟩ := rl.at h z
        show Rp K G H d ((us[j]?).getD u) []
        rw [hy]
        exact ry
  | dT m ks xs =>
    have : ∃ a us F', v = .ref a ∧ H a = some (.dT (tzip ks us)) ∧ ks.length = xs.length ∧ RpL K G H xs us F' := by
      cases m with
      | false => obtain ⟨a, us, e, s, _, l, _, r⟩ := rc; exact ⟨a, us, _, e, hs _ _ s, l, r⟩
      | true => obtain ⟨a, us, F', e, s, _, l, _, r⟩ := rc; exact ⟨a, us, _, e, s, l, r⟩
    obtain ⟨a, us, F', rfl, e, l, rl⟩ := this
    have h : ((keyT k).bind fun k => match kIx ks k with | some j => xs[j]? | none => some x) = some d := h
    cases hk : keyT k with
    | none => rw [hk] at h; cases h
    | some k0 =>
      rw [hk] at h
      obtain ⟨kb, rfl, hkb, _⟩ := rk.keyT hs hk
      have dg := DGet.t (k := tkc k0) e hkb
      rw [tzip_val (l.trans rl.len)] at dg
      refine ⟨a, _, rfl, dg, ?_⟩
      have h : (match kIx ks k0 with | some j => xs[j]? | none => some x) = some d := h
      cases hj : kIx ks k0 with
      | none =>
        rw [hj] at h
        cases h
        exact rx
      | some j =>
        rw [hj] at h
        obtain ⟨y, hy, ry⟩ := rl.at h z
        show Rp K G H d ((us[j]?).getD u) []
        rw [hy]
        exact ry
  | _ => cases h
def vDGet2 (r : Option Nat) (tc tk tx : VTE) : VTE := fun N ε Q => tc N ε fun c ε1 => isDct c = true ∧ tk N ε1 fun k ε2 => tx N ε2 fun x ε3 => sDGet2 [c, k, x] fun d => Q d (restore [r] [c] ε3)
theorem ve_dget2 {o e f : Expr} {r : Option Nat} {tc tk tx : VTE} {apos cpos : Pos} {k : Nat} (hr : Room k X.A) (hc : VG X o r tc) (hk : VG X e none tk) (hx : VG X f none tx) (m : M2 X.toCx o "get" apos e f cpos) : VE X (.Call (.Attribute o "get" apos) [e, f] [] cpos) (vDGet2 r tc tk tx) := by
  obtain ⟨c', a1, a2⟩ := hc.ex
  obtain ⟨k', b1, b2⟩ := hk.ex
  obtain ⟨x', d1, d2⟩ := hx.ex
  refine ⟨fun W => tDGet2 (c' W) (k' W) (x' W), fun W tk => pe_dget2 (by have := hr.units; omega) (a1 W tk) (b1 W tk) (d1 W tk) m, fun b σ H ε T Tv W N Q Q' I q kk x => ?_⟩
  refine a2 b σ H ε T Tv W N _ _ I q (fun c v ε1 H1 J hd z => ?_) x
  obtain ⟨G0, F0, su0, rc0⟩ := J.last I.lenT
  obtain ⟨a, rfl, isd⟩ := isD_run su0 rc0 z.1
  refine ⟨a, rfl, isd, ?_⟩
  refine b2 b σ H1 ε1 _ _ W N _ _ J z.2 (fun y w ε2 H2 J2 _ z2 => ?_) (x.more I.lenT rfl)
  refine d2 b σ H2 ε2 _ _ W N _ _ J2 z2 (fun y2 w2 ε3 H3 J3 _ z3 => ?_) ((x.more I.lenT rfl).more (lenApp I.lenT rfl) rfl)
  obtain ⟨c', k', x', d, e0, hz, hg, hf, z3⟩ := z3
  cases e0
  have J4 : SI X.K b.1 σ H3 ε3 (T ++ [c, y, y2]) (Tv ++ [.ref a, w, w2]) := by simpa only [List.append_assoc, List.cons_append, List.nil_append] using J3
  obtain ⟨G, F, Ft, J5⟩ := id J4
  obtain ⟨F1, F2, rfl, r1, r2⟩ := J5.temps.split2 I.lenT
  obtain ⟨_, _, A1, B1, e1, rfl, rc, _, _, A2, B2, e2, rfl, rk, _, _, A3, B3, e3, rfl, rx, _⟩ := r2
  cases e1; cases e2; cases e3
  obtain ⟨a', o, ea, dg, ro⟩ := dget2_run J5.sub rc rk rx hz hg hf
  cases ea
  refine ⟨o, dg, ?_⟩
  have J6 := J5.push ro
  have J7 : SI X.K b.1 σ H3 ε3 (T ++ ([c] ++ ([y, y2] ++ [d]))) (Tv ++ ([.ref a] ++ ([w, w2] ++ [o.getD w2]))) := ⟨G, F, _, by simpa only [List.append_assoc, List.cons_append, List.nil_append] using J6⟩
  have J8 := SI.restore I.lenT hd rfl J7
  have J9 := SI.midDrops (T := T) (Tv := Tv) (R := [y, y2]) (Rv := [w, w2]) (S := [d]) (Sv := [o.getD w2]) J8 I.lenT rfl
  exact kk d _ _ H3 J9 z3
/-! ### dicts compared, alike -/
def likeD (ks : List Kc) (xs : List D) (ls : List Kc) (ys : List D) : Prop := xs.length = ys.length ∧ ∀ (j : Nat) k x, ks[j]? = some k → xs[j]? = some x → flatD x = true ∧ ∃ i, kIx ls k = some i ∧ ys[i]? = some x
def sEqD (c : Bool) : List D → (D → Prop) → Prop := fun ds Q => ∃ m ks xs n ls ys, ds = [.dK m ks xs, .dK n ls ys] ∧ likeD ks xs ls ys ∧ Q (.bl c)
end
section
variable {K : PySem.W.Frag} {G H : Hp}
theorem Rp.dKall (hs : Sub G H) {m : Bool} {ks : List Kc} {xs : List D} {v : V} {F : List Addr} (r : Rp K G H (.dK m ks xs) v F) : ∃ a us F', v = .ref a ∧ Rd H a (.dK (kzip ks us)) ∧ ks.length = xs.length ∧ ks.Nodup ∧ RpL K G H xs us F' := by
  cases m with
  | false => obtain ⟨a, us, e, s, _, l, n, r⟩ := r; exact ⟨a, us, _, e, hs.rd s, l, n, r⟩
  | true => obtain ⟨a, us, F', e, s, _, l, n, r⟩ := r; exact ⟨a, us, _, e, .inl s, l, n, r⟩
theorem Rp.flatB {x : D} {v : V} {F : List Addr} (h : flatD x = true) (r : Rp K G H x v F) : flatB v = true := by
  cases x <;> first | (exfalso; revert h; simp [flatD]; done) | (obtain ⟨rfl, _⟩ := r; rfl)
theorem Rp.flatOne {x : D} {v w : V} {F F' : List Addr} (h : flatD x = true) (r : Rp K G H x v F) (q : Rp K G H x w F') : v = w := by
  cases x <;> first | (exfalso; revert h; simp [flatD]; done) | (obtain ⟨rfl, _⟩ := r; obtain ⟨rfl, _⟩ := q; rfl)
theorem RpL.flatAt {ds : List D} {vs : List V} {F : List Addr} {j : Nat} {v : V} (r : RpL K G H ds vs F) (h : vs[j]? = some v) : ∃ d B, ds[j]? = some d ∧ Rp K G H d v B := by
  have hj : j < ds.length := by rw [r.len]; exact (List.getElem?_eq_some_iff.mp h).1
  obtain ⟨w, A, B, C, hw, _, rw_, _⟩ := r.focus (List.getElem?_eq_getElem hj)
  rw [h] at hw
  cases hw
  exact ⟨ds[j], B, List.getElem?_eq_getElem hj, rw_⟩
theorem like_run {ks : List Kc} {xs : List D} {ls : List Kc} {ys : List D} {us ws : List V} {F1 F2 : List Addr} (h : likeD ks xs ls ys) (l1 : ks.length = xs.length) (l2 : ls.length = ys.length) (r1 : RpL K G H xs us F1) (r2 : RpL K G H ys ws F2) :
    (kzip ks us).length = (kzip ls ws).length ∧ ∀ p ∈ kzip ks us, valV (kzip ls ws) p.1 = some p.2 ∧ L2.flatB p.2 = true := by
  refine ⟨by rw [kzip_len (l1.trans r1.len), kzip_len (l2.trans r2.len), ← r1.len, ← r2.len]; exact h.1, fun p hp => ?_⟩
  obtain ⟨j, hj⟩ := List.mem_iff_getElem?.mp hp
  unfold kzip at hj
  obtain ⟨e1, e2⟩ := List.getElem?_zip_eq_some.mp hj
  rw [List.getElem?_map] at e1
  cases ek : ks[j]? with
  | none => rw [ek] at e1; cases e1
  | some k =>
    rw [ek] at e1
    have e1 : kc k = p.1 := by simpa using e1
    obtain ⟨x, B, hx, rx⟩ := r1.flatAt e2
    obtain ⟨f, i, hi, hy⟩ := h.2 j k x ek hx
    obtain ⟨w, A, B2, C, hw, _, rw_, _⟩ := r2.focus hy
    rw [← e1, kzip_val (l2.trans r2.len), hi]
    refine ⟨?_, rx.flatB f⟩
    show ws[i]? = some p.2
    rw [hw, rx.flatOne f rw_]
/-- dicts compared, locked ones too -/
def rEqRD (c : Bool) : R2 := fun x y H Q => ∃ a b ks ls, x = .ref a ∧ y = .ref b ∧ Rd H a (.dK ks) ∧ Rd H b (.dK ls) ∧ ks.length = ls.length ∧ (∀ p ∈ ks, valV ls p.1 = some p.2 ∧ flatB p.2 = true) ∧ Q (.bl c) H
theorem op_eqRD {X : Cx} (hu : X.A.units < cLine) : OpR X (compareOp .Eq) (rEqRD true) := by
  intro pins s σ H x y v u Q I rx ry h
  obtain ⟨a, b, ks, ls, rfl, rfl, ea, eb, hlen, hp, q⟩ := h
  obtain rfl : v = Value.ref a := rx
  obtain rfl : u = Value.ref b := ry
  obtain ⟨_, y1, w1, r1, d1⟩ := dk_rd I.hok ea
  obtain ⟨_, y2, w2, r2, d2⟩ := dk_rd I.hok eb
  have hl : w1.length = w2.length := by rw [← r1.length, ← r2.length]; exact hlen
  exact PySem.W.keq_eq (knd := mixKind X.prog X.w) (r := true) y1 y2 d1 d2 hu (fun _ => hits_all r2 r1 hp) (fin_bl I q (by simp [hl]))
theorem op_neRD {X : Cx} (hu : X.A.units < cLine) : OpR X (compareOp .NotEq) (rEqRD false) := by
  intro pins s σ H x y v u Q I rx ry h
  obtain ⟨a, b, ks, ls, rfl, rfl, ea, eb, hlen, hp, q⟩ := h
  obtain rfl : v = Value.ref a := rx
  obtain rfl : u = Value.ref b := ry
  obtain ⟨_, y1, w1, r1, d1⟩ := dk_rd I.hok ea
  obtain ⟨_, y2, w2, r2, d2⟩ := dk_rd I.hok eb
  have hl : w1.length = w2.length := by rw [← r1.length, ← r2.length]; exact hlen
  exact PySem.W.keq_ne (knd := mixKind X.prog X.w) (r := true) y1 y2 d1 d2 hu (fun _ => hits_all r2 r1 hp) (fin_bl I q (by simp [hl]))
theorem opn_eqD : OpN K (r2N (rEqRD true)) (sEqD true) := OpN.pure fun G H ds vs F Q Q' hs r q k => by
  obtain ⟨m, ks, xs, n, ls, ys, rfl, h, q⟩ := q
  obtain ⟨v, w, F1, F2, rfl, rx, ry⟩ := r.two
  obtain ⟨a, us, F', rfl, e, l, _, rl⟩ := rx.dKall hs
  obtain ⟨a2, us2, F2', rfl, e2, l2, _, rl2⟩ := ry.dKall hs
  obtain ⟨h1, h2⟩ := like_run h l l2 rl rl2
  exact ⟨_, _, rfl, a, a2, _, _, rfl, rfl, e, e2, h1, h2, k (.bl true) _ (fun _ _ _ => ⟨rfl, rfl⟩) q⟩
theorem opn_neD : OpN K (r2N (rEqRD false)) (sEqD false) := OpN.pure fun G H ds vs F Q Q' hs r q k => by
  obtain ⟨m, ks, xs, n, ls, ys, rfl, h, q⟩ := q
  obtain ⟨v, w, F1, F2, rfl, rx, ry⟩ := r.two
  obtain ⟨a, us, F', rfl, e, l, _, rl⟩ := rx.dKall hs
  obtain ⟨a2, us2, F2', rfl, e2, l2, _, rl2⟩ := ry.dKall hs
  obtain ⟨h1, h2⟩ := like_run h l l2 rl rl2
  exact ⟨_, _, rfl, a, a2, _, _, rfl, rfl, e, e2, h1, h2, k (.bl false) _ (fun _ _ _ => ⟨rfl, rfl⟩) q⟩
theorem opr_eqD {X : Cv} {k : Nat} (hr : Room k X.A) : OpR X.toCx (compareOp .Eq) (rEqRD true) := op_eqRD (by have := hr.units; omega)
theorem opr_neD {X : Cv} {k : Nat} (hr : Room k X.A) : OpR X.toCx (compareOp .NotEq) (rEqRD false) := op_neRD (by have := hr.units; omega)
theorem likeD_refl {ks : List Kc} {xs : List D} (nd : ks.Nodup) (hl : ks.length = xs.length) (hf : xs.all flatD = true) : likeD ks xs ks xs := by
  refine ⟨rfl, fun j k x ek ex => ⟨List.all_eq_true.mp hf x (List.mem_of_getElem? ex), j, ?_, ex⟩⟩
  clear ex hl hf
  induction ks generalizing j with
  | nil => simp at ek
  | cons a ks ih =>
    obtain ⟨n1, n2⟩ := List.nodup_cons.mp nd
    cases j with
    | zero =>
      simp at ek
      subst ek
      simp [kIx]
    | succ j =>
      have ek : ks[j]? = some k := by simpa using ek
      unfold kIx
      rw [if_neg (fun e : a = k => n1 (e ▸ List.mem_of_getElem? ek)), ih n2 j ek]
      rfl
end
end VL
/-! VL18: short names for printed derivations; a def out of the head; the law's end. -/
namespace VL
open PySem PySem.Spec PyProof.Rows L2 VL
/-! ### operators by name -/
abbrev oSub := sI2 fun i j => .int (i - j)
abbrev oAnd := sI2 fun i j => .int (Builtin.bitAnd i j)
abbrev oXor := sI2 fun i j => .int (Builtin.bitXor i j)
abbrev oLt := sI2 fun i j => .bl (decide (i < j))
abbrev oLe := sI2 fun i j => .bl (decide (i ≤ j))
abbrev oGt := sI2 fun i j => .bl (decide (j < i))
abbrev oGe := sI2 fun i j => .bl (decide (j ≤ i))
abbrev oMod := sI2c (fun _ j => j ≠ 0) fun i j => .int (pmod i j)
abbrev oDiv := sI2c CDv fun i j => .int (pdiv i j)
abbrev oPow := sI2c CPow fun i j => .int (i ^ j.toNat)
def oNeg : List D → (D → Prop) → Prop := fun ds Q => ∃ i, ds = [.int i] ∧ Q (.int (-i))
theorem opn_neg {K : PySem.W.Frag} : OpN K (r1N (rU fun i => .int (-i))) oNeg := OpN.pure fun G H ds vs F Q Q' hs r q k => by
  obtain ⟨i, rfl, q⟩ := q
  obtain ⟨v, rfl, rfl, _⟩ := r.one'
  exact ⟨_, rfl, i, rfl, k (.int (-i)) _ (fun _ _ _ => ⟨rfl, rfl⟩) q⟩
section
variable {X : Cv}
theorem nv (i : Nat) {x : Str} {pos : Pos} (hN : X.N[i]? = some x := by rfl) (hv : Vis X.env.scope x := by first | exact Or.inl rfl | exact Or.inr (Or.inl rfl) | exact Or.inr (Or.inr rfl)) (hd : (x == ("__debug__" : Str)) = false := by decide) (hcd : (x == ("__classdict__" : Str)) = false := by decide) : VE X (.Name x pos) (vVar i) := ve_var hN hv hd hcd
theorem nm (i : Nat) {x : Str} {pos : Pos} (hN : X.N[i]? = some x := by rfl) (hv : Vis X.env.scope x := by first | exact Or.inl rfl | exact Or.inr (Or.inl rfl) | exact Or.inr (Or.inr rfl)) (hd : (x == ("__debug__" : Str)) = false := by decide) (hcd : (x == ("__classdict__" : Str)) = false := by decide) : VE X (.Name x pos) (vMov i) := ve_mov hN hv hd hcd
theorem nf (i : Nat) {x : Str} {pos : Pos} (hN : X.N[i]? = some x := by rfl) (hv : Vis X.env.scope x := by first | exact Or.inl rfl | exact Or.inr (Or.inl rfl) | exact Or.inr (Or.inr rfl)) (hd : (x == ("__debug__" : Str)) = false := by decide) (hcd : (x == ("__classdict__" : Str)) = false := by decide) : VE X (.Name x pos) (vFrz i) := ve_frz hN hv hd hcd
theorem nq (i : Nat) {x : Str} {pos : Pos} (hN : X.N[i]? = some x := by rfl) (hv : Vis X.env.scope x := by first | exact Or.inl rfl | exact Or.inr (Or.inl rfl) | exact Or.inr (Or.inr rfl)) (hd : (x == ("__debug__" : Str)) = false := by decide) (hcd : (x == ("__classdict__" : Str)) = false := by decide) : VQ X (.Name x pos) (vVar i) := vq_var hN hv hd hcd
theorem np (i : Nat) {x : Str} {pos : Pos} (hN : X.N[i]? = some x := by rfl) (hv : Vis X.env.scope x := by first | exact Or.inl rfl | exact Or.inr (Or.inl rfl) | exact Or.inr (Or.inr rfl)) (hd : (x == ("__debug__" : Str)) = false := by decide) (hcd : (x == ("__classdict__" : Str)) = false := by decide) : VP X (.Name x pos) i (vpName i) := vp_name hN hv hd hcd
theorem ng (i : Nat) {x : Str} {pos : Pos} (hN : X.N[i]? = some x := by rfl) (hv : Vis X.env.scope x := by first | exact Or.inl rfl | exact Or.inr (Or.inl rfl) | exact Or.inr (Or.inr rfl)) (hd : (x == ("__debug__" : Str)) = false := by decide) (hcd : (x == ("__classdict__" : Str)) = false := by decide) : VG X (.Name x pos) (some i) (vMov i) := vg_ref hN hv hd hcd
theorem sa (i : Nat) {x : Str} {e : Expr} {t : VTE} {pos pos' : Pos} (hN : X.N.Nodup) (h : VE X e t) (hi : X.N[i]? = some x := by rfl) (hx : Loc X.env.scope x := by first | exact Or.inl rfl | exact Or.inr rfl) (hk : X.κ[i]? ≠ some true := by exact ne_of_beq_false rfl) (hs : swapsWith e (some (.Name x pos')) pos.line X.env = pure false := by rfl)
    (hf : X.fn x = true ∨ X.env.scope.names.lookup x = some .local := by first | exact .inl rfl | exact .inr rfl) : VS X (.Assign [.Name x pos'] e pos) (vAsg i t) := vs_asg hN hi hx hk h hs hf
theorem tn (i : Nat) {x : Str} {pos : Pos} (hN : X.N.Nodup) (hi : X.N[i]? = some x := by rfl) (hx : Loc X.env.scope x := by first | exact Or.inl rfl | exact Or.inr rfl) (hk : X.κ[i]? ≠ some true := by exact ne_of_beq_false rfl)
    (hf : X.fn x = true ∨ X.env.scope.names.lookup x = some .local := by first | exact .inl rfl | exact .inr rfl) : VTa X (.Name x pos) (vName i) := vt_name hN hi hx hk hf
theorem m_app (i : Nat) {y : Str} {opos : Pos} {e : Expr} {es : List Expr} {rs : List (Option Nat)} {te : VTA} {apos cpos : Pos} (he : VA X (e :: es) rs te) (hrs : rs.all (· == none) = true := by rfl) (hN : X.N[i]? = some y := by rfl) (hv : Vis X.env.scope y := by first | exact Or.inl rfl | exact Or.inr (Or.inl rfl) | exact Or.inr (Or.inr rfl))
    (hd : (y == ("__debug__" : Str)) = false := by decide) (hcd : (y == ("__classdict__" : Str)) = false := by decide)
    (hbase : attributeBase (.Name y opos) "append" X.env (eval (.Name y opos) X.env) = eval (.Name y opos) X.env := by rfl)
    (hfew : ((backTo cpos (starEach (e :: es) X.env)).all (fun x => !x.1) && (backToKw cpos (keywordEach [] X.env)).all (fun x => x.1.isSome) && decide ((e :: es).length + ([] : List Keyword).length + (if ([] : List Keyword).isEmpty then 0 else 1) < 30)) = true := by rfl)
    (hline : (apos.endLine == cpos.line) = true := by rfl) (hs : starEach (e :: es) X.env = (false, eval e X.env) :: starEach es X.env := by rfl) (hplain : (backTo cpos (starEach es X.env)).any (·.1) = false := by rfl) :
    VE X (.Call (.Attribute (.Name y opos) "append" apos) (e :: es) [] cpos) (vMutN muAppend i te) := ve_mutN hN hv he hrs mu_append PySem.F.slot_list_append PySem.F.type_list_append mt_append hd hcd hbase hfew hline hs hplain
theorem mp_app {o e : Expr} {es : List Expr} {i : Nat} {t : VTP} {te : VTA} {apos cpos : Pos} (h : VP X o i t) (he : VAQ X (e :: es) te)
    (hbase : attributeBase o "append" X.env (eval o X.env) = eval o X.env := by rfl)
    (hfew : ((backTo cpos (starEach (e :: es) X.env)).all (fun x => !x.1) && (backToKw cpos (keywordEach [] X.env)).all (fun x => x.1.isSome) && decide ((e :: es).length + ([] : List Keyword).length + (if ([] : List Keyword).isEmpty then 0 else 1) < 30)) = true := by rfl)
    (hline : (apos.endLine == cpos.line) = true := by rfl) (hs : starEach (e :: es) X.env = (false, eval e X.env) :: starEach es X.env := by rfl) (hplain : (backTo cpos (starEach es X.env)).any (·.1) = false := by rfl) :
    VE X (.Call (.Attribute o "append" apos) (e :: es) [] cpos) (vMut muAppend i t te) := ve_mut h he mu_append PySem.F.slot_list_append PySem.F.type_list_append mt_append hbase hfew hline hs hplain
/-- a name as an argument: moved out behind the arguments that follow -/
def vaLate (i : Nat) (u : VTA) : VTA := fun N ε Q => (∃ d, ε[i]? = some (some d)) ∧ u N ε fun ds ε1 => ∃ d, ε1[i]? = some (some d) ∧ Q (d :: ds) (ε1.set i none)
theorem va_late {i : Nat} {x : Str} {pos : Pos} {es : List Expr} {rs : List (Option Nat)} {u : VTA} (k : VA X es rs u) (hN : X.N[i]? = some x) (hv : Vis X.env.scope x) (hd : (x == ("__debug__" : Str)) = false := by decide) (hcd : (x == ("__classdict__" : Str)) = false := by decide)
    (hs : starEach (.Name x pos :: es) X.env = (false, eval (.Name x pos) X.env) :: starEach es X.env := by rfl) : VA X (.Name x pos :: es) (some i :: rs) (vaLate i u) := by
  obtain ⟨u', k1, k2⟩ := k.ex
  refine ⟨fun W => tCons (tVar i) (u' W), fun W tk => pa_cons (pe_var hN hv hd hcd) (k1 W tk) hs, fun b σ H ε T Tv W N Q Q' I q z x => ?_⟩
  obtain ⟨⟨d0, e0⟩, q⟩ := q
  obtain ⟨v, hs, _⟩ := I.mov e0
  refine ⟨v, hs, k2 b σ H ε T Tv W N _ _ I q (fun ds vs ε2 H2 J l hh q2 => ?_) x⟩
  obtain ⟨d, e, q2⟩ := q2
  obtain ⟨v', hs', J2⟩ := J.mov e
  rw [hs] at hs'
  cases hs'
  have J3 := SI.swap (A := ds) (B := [d]) (C := []) (Av := vs) (Bv := [v]) (Cv := []) (by simpa only [List.append_assoc, List.append_nil] using J2) I.lenT l rfl
  exact z (d :: ds) (v :: vs) _ H2 (by simpa using J3) (by simp [l]) ⟨hs, hh⟩ q2
theorem al (i : Nat) {x : Str} {pos : Pos} {es : List Expr} {rs : List (Option Nat)} {u : VTA} (k : VA X es rs u) (hN : X.N[i]? = some x := by rfl) (hv : Vis X.env.scope x := by first | exact Or.inl rfl | exact Or.inr (Or.inl rfl) | exact Or.inr (Or.inr rfl)) (hd : (x == ("__debug__" : Str)) = false := by decide) (hcd : (x == ("__classdict__" : Str)) = false := by decide)
    (hs : starEach (.Name x pos :: es) X.env = (false, eval (.Name x pos) X.env) :: starEach es X.env := by rfl) : VA X (.Name x pos :: es) (some i :: rs) (vaLate i u) := va_late k hN hv hd hcd hs
/-- a module's constant -/
theorem ve_globI {x : Str} {i : Int} {pos : Pos} (hg : Gl X.toCx x) (hm : ∃ t, X.mg x = some (.int i t)) (hd : (x == ("__debug__" : Str)) = false := by decide) : VE X (.Name x pos) (vC (.int i)) :=
  let ⟨t, h⟩ := hm; ve_glob hg h (v := .int i) ⟨t, rfl⟩ (fun _ _ => ⟨rfl, rfl⟩) hd
theorem ve_globS {x z : Str} {s : Cs} {pos : Pos} (hg : Gl X.toCx x) (hm : ∃ t, X.mg x = some (.str z t)) (hz : z.cps.toList = s) (hd : (x == ("__debug__" : Str)) = false := by decide) : VE X (.Name x pos) (vC (.str s)) :=
  let ⟨t, h⟩ := hm; ve_glob hg h (v := .str z) ⟨t, rfl⟩ (fun _ _ => ⟨by rw [← hz, toS_cps], rfl⟩) hd
end
/-! ### a def out of the head -/
def FnAt (K : PySem.W.Frag) (mg : Str → Option Value) (x : Str) (st : Stmt) : Prop := ∃ f fd, mg x = some (.ref f) ∧ FunD K x x (defArgs st) (defBody st) (defScope st) [] [] f fd
theorem fnAt_of {K : PySem.W.Frag} {mg : Str → Option Value} {x : Str} {st : Stmt} {h : Heap} {a : Str × Option Str} (X : K.In h) (G : h.Ns mainGlobals mg) (c : (He.Fa.glo x).ok K = true) (ha : a = (x, none)) (d : ∃ fd, FunD K x x (defArgs st) (defBody st) (defScope st) [] [] (He.fAd K a) fd) : FnAt K mg x st := by
  subst ha
  obtain ⟨fd, d⟩ := d
  exact ⟨_, fd, He.glo_ok X G c, d⟩
/-- a body's reading keeps the promise -/
def Rd (n : Nat) (κ : List Bool) (m : Nat) (vsp : VSp) (t : VTS) : Prop := ∀ ds Q Ex, ds.length = n → vsp ds Q Ex → t { nx := fun ε => n ≤ ε.length ∧ Q .non (finalL κ ds ε), rt := fun r ε => n ≤ ε.length ∧ Q r (finalL κ ds ε), rx := fun cls row ε => n ≤ ε.length ∧ Ex cls row (finalL κ ds ε) } (startE m ds)
theorem Fv.mk2 {P : Program} {w : World} {K : PySem.W.Frag} {mg : Str → Option Value} {base : Heap} {x : Str} {st : Stmt} {N ps : List Str} {κ : List Bool} {k n : Nat} {vsp : VSp} {t : VTS} (F : FnAt K mg x st) (S : FnScope N ps (defScope st))
    (hb : ∀ {f fd}, FunD K x x (defArgs st) (defBody st) (defScope st) [] [] f fd → Binds K fd ps []) (hn : ps.length = n) (hN : n ≤ N.length)
    (hbody : ∀ (f : Addr) (cdv : Value) (A : Around) (outer : List Env) (s : Shared) (H : Hp) (E : XK), Room k (A.deeper (envOfC x (defScope st) s.heap.objs.size f cdv)) → VSs (bodyX P w K mg base N κ x (defScope st) f cdv A outer s H E) (defBody st) t)
    (hm : Mono vsp) (hsp : Rd n κ N.length vsp t) : Fv P w K mg base x (k + 1) n vsp := by
  obtain ⟨f, fd, h1, F⟩ := F
  exact ⟨f, fd, ps, h1, F.kp, hb F, fn_ok F S hn hN (hbody f) hm hsp⟩
/-! ### the end -/
theorem cx_no {P : Program} : ∀ (w : World) (H : Hp) (s : Shared) (e : Value) (s' : Shared), VL.CX P w [] H s (fun _ _ _ => False) e s' → False := fun _ _ _ _ _ h => by
  obtain ⟨_, _, _, _, _, _, _, _, _, _, _, _, z⟩ := h
  exact z
/-- the script as a tree -/
def scriptD (ns : List Int) : D := .lst false (ns.map D.int)
theorem ints_rp {K : PySem.W.Frag} {G H : Hp} : ∀ ns : List Int, RpL K G H (ns.map D.int) (ns.map V.int) []
  | [] => ⟨rfl, rfl⟩
  | n :: ns => ⟨.int n, ns.map V.int, [], [], rfl, rfl, ⟨rfl, rfl⟩, ints_rp ns⟩
theorem lawAt {l : PySem.W.OpenLaw} {w : World} {K : PySem.W.Frag} {k : Nat} {p : Str} {mg : Str → Option Value} {fa : Addr} {h : Heap} {st : Stmt} {vsp : VSp}
    (hmg : mg ("law" : Str) = some (.ref fa)) (F : FnAt K mg "law" st)
    (hb : ∀ {f fd}, FunD K "law" "law" (defArgs st) (defBody st) (defScope st) [] [] f fd → ∀ (s : Shared) (u : Value), BindsTo s fd ⟨[u], []⟩ [(p, u)])
    (hp : ∀ {base : Heap} {f : Addr} {fd : FuncData}, FunD K "law" "law" (defArgs st) (defBody st) (defScope st) [] [] f fd → FnOk l.prog w K mg base (VL.CX l.prog w) k f fd [p] (Lift K 1 vsp))
    (hm : Mono vsp) (ht : ∀ ns : List Int, ns.length ≤ 63 → (∀ z ∈ ns, Builtin.Int.intBits z ≤ 1048576) → vsp [scriptD ns] (fun r _ => r = .bl true) (fun _ _ _ => False)) :
    LamX.LawAtS l w K (VL.CX l.prog w) k 63 p mg fa h := by
  obtain ⟨f, fd, h1, F⟩ := F
  rw [hmg] at h1
  cases h1
  refine ⟨fd, [], Lift K 1 vsp, (fun _ z => nomatch z), (fun _ z => nomatch z), (fun _ z => nomatch z), hb F, fun H a ns hl hbits _ hS => ?_, fun base _ _ _ => hp F⟩
  refine ⟨H, [], [scriptD ns], ⟨Sub.refl, Sub.refl, ⟨rfl, rfl⟩, RpL.one.mpr ⟨a, ns.map V.int, rfl, hS, rfl, ints_rp ns⟩, List.nodup_nil, (fun _ z => nomatch z), (fun _ z => nomatch z), (fun a o e => .inl e), (fun a o e _ => e), fun j v e => by simp [callB] at e⟩, rfl, ?_⟩
  refine hm _ _ _ _ _ (fun r ds z v H' I => ?_) (fun _ _ _ z => z.elim) (ht ns hl hbits)
  subst z
  obtain ⟨G, F, su, rv, _⟩ := SI.last I (by
    have := I.lenT
    simpa using this)
  exact rv
end VL
/-! VL19: a body read from the left: what each operation asks, by the shape of its operands. -/
namespace VL
open PySem PySem.Spec PyProof.Rows L2 VL
section
variable {Q : D → Prop} {x y c k : D} {i j : Int} {s t : Cs} {xs ys : List D} {m n : Bool}
theorem e_sI2 {f : Int → Int → D} : sI2 f [.int i, .int j] Q ↔ Q (f i j) := ⟨fun ⟨_, _, e, q⟩ => by cases e; exact q, fun q => ⟨_, _, rfl, q⟩⟩
theorem e_sI2c {cc : Int → Int → Prop} {f : Int → Int → D} : sI2c cc f [.int i, .int j] Q ↔ cc i j ∧ Q (f i j) := ⟨fun ⟨_, _, e, q⟩ => by cases e; exact q, fun q => ⟨_, _, rfl, q⟩⟩
theorem e_neg : oNeg [.int i] Q ↔ Q (.int (-i)) := ⟨fun ⟨_, e, q⟩ => by cases e; exact q, fun q => ⟨_, rfl, q⟩⟩
theorem e_addI : sAdd [.int i, .int j] Q ↔ Q (.int (i + j)) := ⟨fun ⟨_, _, _, e, h, q⟩ => by cases e; cases h; exact q, fun q => ⟨_, _, _, rfl, rfl, q⟩⟩
theorem e_addS : sAdd [.str s, .str t] Q ↔ s.length + t.length < 1000000 ∧ Q (.str (s ++ t)) := by
  constructor
  · rintro ⟨_, _, d, e, h, q⟩
    cases e
    have h : (if s.length + t.length < 1000000 then some (D.str (s ++ t)) else none) = some d := h
    by_cases z : s.length + t.length < 1000000
    · rw [if_pos z] at h; cases h; exact ⟨z, q⟩
    · rw [if_neg z] at h; cases h
  · rintro ⟨z, q⟩
    exact ⟨_, _, _, rfl, if_pos z, q⟩
theorem e_addT : sAdd [.tup xs, .tup ys] Q ↔ (isFzL xs = true ∧ isFzL ys = true ∧ xs.length + ys.length < 1000000) ∧ Q (.tup (xs ++ ys)) := by
  constructor
  · rintro ⟨_, _, d, e, h, q⟩
    cases e
    have h : (if (isFzL xs && isFzL ys) = true then (if xs.length + ys.length < 1000000 then some (D.tup (xs ++ ys)) else none) else none) = some d := h
    by_cases z : (isFzL xs && isFzL ys) = true
    · rw [if_pos z] at h
      by_cases z2 : xs.length + ys.length < 1000000
      · rw [if_pos z2] at h; cases h
        exact ⟨⟨(Bool.and_eq_true_iff.mp z).1, (Bool.and_eq_true_iff.mp z).2, z2⟩, q⟩
      · rw [if_neg z2] at h; cases h
    · rw [if_neg z] at h; cases h
  · rintro ⟨⟨a, b, z⟩, q⟩
    exact ⟨_, _, _, rfl, (if_pos (Bool.and_eq_true_iff.mpr ⟨a, b⟩)).trans (if_pos z), q⟩
theorem e_addL : sAdd [.lst m xs, .lst n ys] Q ↔ (isFzL xs = true ∧ isFzL ys = true ∧ xs.length + ys.length < 1000000) ∧ Q (.lst true (xs ++ ys)) := by
  constructor
  · rintro ⟨_, _, d, e, h, q⟩
    cases e
    have h : (if (isFzL xs && isFzL ys) = true then (if xs.length + ys.length < 1000000 then some (D.lst true (xs ++ ys)) else none) else none) = some d := h
    by_cases z : (isFzL xs && isFzL ys) = true
    · rw [if_pos z] at h
      by_cases z2 : xs.length + ys.length < 1000000
      · rw [if_pos z2] at h; cases h
        exact ⟨⟨(Bool.and_eq_true_iff.mp z).1, (Bool.and_eq_true_iff.mp z).2, z2⟩, q⟩
      · rw [if_neg z2] at h; cases h
    · rw [if_neg z] at h; cases h
  · rintro ⟨⟨a, b, z⟩, q⟩
    exact ⟨_, _, _, rfl, (if_pos (Bool.and_eq_true_iff.mpr ⟨a, b⟩)).trans (if_pos z), q⟩
theorem e_mulI : sMul [.int i, .int j] Q ↔ CMl i j ∧ Q (.int (i * j)) := by
  constructor
  · rintro (⟨_, _, e, h, q⟩ | ⟨_, _, e, _⟩)
    · cases e; exact ⟨h, q⟩
    · cases e
  · rintro ⟨h, q⟩
    exact .inl ⟨_, _, rfl, h, q⟩
theorem e_divmod : sDivmod [.int i, .int j] Q ↔ CDv i j ∧ Q (.tup [.int (pdiv i j), .int (pmod i j)]) := ⟨fun ⟨_, _, e, q⟩ => by cases e; exact q, fun q => ⟨_, _, rfl, q⟩⟩
/-- what == asks -/
def eqOk (x y : D) : Prop := scalD x y = true ∨ (okD 64 x = true ∧ okD 64 y = true)
theorem e_eq : sEq [x, y] Q ↔ eqOk x y ∧ Q (.bl (deq x y)) := ⟨fun ⟨_, _, e, h, q⟩ => by cases e; exact ⟨h, q⟩, fun ⟨h, q⟩ => ⟨_, _, rfl, h, q⟩⟩
theorem e_ne : sNe [x, y] Q ↔ eqOk x y ∧ Q (.bl (!deq x y)) := ⟨fun ⟨_, _, e, h, q⟩ => by cases e; exact ⟨h, q⟩, fun ⟨h, q⟩ => ⟨_, _, rfl, h, q⟩⟩
theorem eqOk_i : eqOk (.int i) (.int j) ↔ True := ⟨fun _ => trivial, fun _ => .inl rfl⟩
theorem eqOk_s : eqOk (.str s) (.str t) ↔ True := ⟨fun _ => trivial, fun _ => .inl rfl⟩
theorem eqOk_b {a b : Bool} : eqOk (.bl a) (.bl b) ↔ True := ⟨fun _ => trivial, fun _ => .inl rfl⟩
theorem eqOk_si : eqOk (.str s) (.int j) ↔ True := ⟨fun _ => trivial, fun _ => .inl rfl⟩
theorem eqOk_is : eqOk (.int i) (.str s) ↔ True := ⟨fun _ => trivial, fun _ => .inl rfl⟩
theorem deq_i : deq (.int i) (.int j) = decide (i = j) := by rw [deq, Bool.eq_iff_iff, beq_iff_eq, decide_eq_true_iff]
theorem deq_s : deq (.str s) (.str t) = decide (s = t) := by rw [deq, Bool.eq_iff_iff, beq_iff_eq, decide_eq_true_iff]
theorem deq_b {a b : Bool} : deq (.bl a) (.bl b) = decide (a = b) := by cases a <;> cases b <;> rfl
theorem deq_si : deq (.str s) (.int j) = false := rfl
theorem deq_is : deq (.int i) (.str s) = false := rfl
theorem e_isN : sIsN [x, .non] Q ↔ x ≠ .hole ∧ Q (.bl (isNon x)) := ⟨fun ⟨_, e, h, q⟩ => by cases e; exact ⟨h, q⟩, fun ⟨h, q⟩ => ⟨_, rfl, h, q⟩⟩
theorem e_notN : sNotN [x, .non] Q ↔ x ≠ .hole ∧ Q (.bl (!isNon x)) := ⟨fun ⟨_, e, h, q⟩ => by cases e; exact ⟨h, q⟩, fun ⟨h, q⟩ => ⟨_, rfl, h, q⟩⟩
theorem e_isi {T : String} : sIsi [x, .ty T] Q ↔ ∃ t, tyNm x = some t ∧ T ∈ tys ∧ Q (.bl (isT t T)) := ⟨fun ⟨_, t, _, e, h1, h2, q⟩ => by cases e; exact ⟨t, h1, h2, q⟩, fun ⟨t, h1, h2, q⟩ => ⟨_, t, _, rfl, h1, h2, q⟩⟩
theorem e_lenS : sLen [.str s] Q ↔ s.length < 1000000 ∧ Q (.int s.length) := by
  constructor
  · rintro ⟨_, l, e, h, q⟩
    cases e
    have h : (if s.length < 1000000 then some s.length else none) = some l := h
    by_cases z : s.length < 1000000
    · rw [if_pos z] at h; cases h; exact ⟨z, q⟩
    · rw [if_neg z] at h; cases h
  · rintro ⟨z, q⟩
    exact ⟨_, _, rfl, if_pos z, q⟩
theorem e_lenL : sLen [.lst m xs] Q ↔ Q (.int xs.length) := ⟨fun ⟨_, _, e, h, q⟩ => by cases e; cases h; exact q, fun q => ⟨_, _, rfl, rfl, q⟩⟩
theorem e_lenT : sLen [.tup xs] Q ↔ Q (.int xs.length) := ⟨fun ⟨_, _, e, h, q⟩ => by cases e; cases h; exact q, fun q => ⟨_, _, rfl, rfl, q⟩⟩
theorem e_lenK {ks : List Kc} : sLen [.dK m ks xs] Q ↔ Q (.int xs.length) := ⟨fun ⟨_, _, e, h, q⟩ => by cases e; cases h; exact q, fun q => ⟨_, _, rfl, rfl, q⟩⟩
theorem e_lenDT {ks : List (List Kc)} : sLen [.dT m ks xs] Q ↔ Q (.int xs.length) := ⟨fun ⟨_, _, e, h, q⟩ => by cases e; cases h; exact q, fun q => ⟨_, _, rfl, rfl, q⟩⟩
theorem e_ix : sIx [c, k] Q ↔ ∃ d, ixD c k = some d ∧ isFz d = true ∧ Q d := ⟨fun ⟨_, _, d, e, h, z, q⟩ => by cases e; exact ⟨d, h, z, q⟩, fun ⟨d, h, z, q⟩ => ⟨_, _, d, rfl, h, z, q⟩⟩
theorem ixD_l : ixD (.lst m xs) (.int i) = (ixN xs.length i).bind fun j => xs[j]? := rfl
theorem ixD_t : ixD (.tup xs) (.int i) = (ixN xs.length i).bind fun j => xs[j]? := rfl
theorem e_in {b : Bool} : sIn b [x, c] Q ↔ ∃ r, memD x c = some r ∧ Q (.bl (if b then !r else r)) := ⟨fun ⟨_, _, r, e, h, q⟩ => by cases e; exact ⟨r, h, q⟩, fun ⟨r, h, q⟩ => ⟨_, _, r, rfl, h, q⟩⟩
theorem e_min : sMin [.int i, .int j] Q ↔ Q (.int (min i j)) := ⟨fun ⟨_, _, e, q⟩ => by cases e; exact q, fun q => ⟨_, _, rfl, q⟩⟩
theorem e_max : sMax [.int i, .int j] Q ↔ Q (.int (max i j)) := ⟨fun ⟨_, _, e, q⟩ => by cases e; exact q, fun q => ⟨_, _, rfl, q⟩⟩
theorem e_list : sList [x] Q ↔ ∃ ys, listD x = some ys ∧ isFzL ys = true ∧ Q (.lst true ys) := ⟨fun ⟨_, ys, e, h, z, q⟩ => by cases e; exact ⟨ys, h, z, q⟩, fun ⟨ys, h, z, q⟩ => ⟨_, ys, rfl, h, z, q⟩⟩
theorem e_tuple : sTuple [x] Q ↔ ∃ ys, seqD x = some ys ∧ isFzL ys = true ∧ Q (.tup ys) := ⟨fun ⟨_, ys, e, h, z, q⟩ => by cases e; exact ⟨ys, h, z, q⟩, fun ⟨ys, h, z, q⟩ => ⟨_, ys, rfl, h, z, q⟩⟩
theorem e_dict {ks : List Kc} : sDict [.dK m ks xs] Q ↔ isFzL xs = true ∧ Q (.dK true ks xs) := ⟨fun ⟨_, _, _, e, z, q⟩ => by cases e; exact ⟨z, q⟩, fun ⟨z, q⟩ => ⟨_, _, _, rfl, z, q⟩⟩
theorem e_rev : sRev [.lst m xs] Q ↔ isFzL xs = true ∧ Q (.lst true xs.reverse) := ⟨fun ⟨_, _, e, z, q⟩ => by cases e; exact ⟨z, q⟩, fun ⟨z, q⟩ => ⟨_, _, rfl, z, q⟩⟩
theorem e_dget2 : sDGet2 [c, k, x] Q ↔ isFz x = true ∧ ∃ d, dget2D c k x = some d ∧ isFz d = true ∧ Q d := ⟨fun ⟨_, _, _, d, e, h1, h2, z, q⟩ => by cases e; exact ⟨h1, d, h2, z, q⟩, fun ⟨h1, d, h2, z, q⟩ => ⟨_, _, _, d, rfl, h1, h2, z, q⟩⟩
theorem e_eqD {b : Bool} {ks ls : List Kc} : sEqD b [.dK m ks xs, .dK n ls ys] Q ↔ likeD ks xs ls ys ∧ Q (.bl b) := ⟨fun ⟨_, _, _, _, _, _, e, h, q⟩ => by cases e; exact ⟨h, q⟩, fun ⟨h, q⟩ => ⟨_, _, _, _, _, _, rfl, h, q⟩⟩
theorem e_slS {lo hi : Option Int} {P : D → Prop} : (∃ d, sliceD (.str s) lo hi = some d ∧ P d) ↔ s.length < 1000000 ∧ P (.str (cutL s lo hi)) := by
  constructor
  · rintro ⟨d, h, q⟩
    have h : (if s.length < 1000000 then some (D.str (cutL s lo hi)) else none) = some d := h
    by_cases z : s.length < 1000000
    · rw [if_pos z] at h; cases h; exact ⟨z, q⟩
    · rw [if_neg z] at h; cases h
  · rintro ⟨z, q⟩
    exact ⟨_, if_pos z, q⟩
theorem e_slL {lo hi : Option Int} {P : D → Prop} : (∃ d, sliceD (.lst m xs) lo hi = some d ∧ P d) ↔ isFzL xs = true ∧ P (.lst true (cutL xs lo hi)) := by
  constructor
  · rintro ⟨d, h, q⟩
    have h : (if isFzL xs = true then some (D.lst true (cutL xs lo hi)) else none) = some d := h
    by_cases z : isFzL xs = true
    · rw [if_pos z] at h; cases h; exact ⟨z, q⟩
    · rw [if_neg z] at h; cases h
  · rintro ⟨z, q⟩
    exact ⟨_, if_pos z, q⟩
theorem e_slT {lo hi : Option Int} {P : D → Prop} : (∃ d, sliceD (.tup xs) lo hi = some d ∧ P d) ↔ isFzL xs = true ∧ P (.tup (cutL xs lo hi)) := by
  constructor
  · rintro ⟨d, h, q⟩
    have h : (if isFzL xs = true then some (D.tup (cutL xs lo hi)) else none) = some d := h
    by_cases z : isFzL xs = true
    · rw [if_pos z] at h; cases h; exact ⟨z, q⟩
    · rw [if_neg z] at h; cases h
  · rintro ⟨z, q⟩
    exact ⟨_, if_pos z, q⟩
end
theorem isDct_K {m : Bool} {ks : List Kc} {xs : List D} : isDct (.dK m ks xs) = true := rfl
theorem isDct_T {m : Bool} {ks : List (List Kc)} {xs : List D} : isDct (.dT m ks xs) = true := rfl
/-! ### promises of a plain shape -/
/-- handed arg a, with pre a, it answers r with post a r, the arguments being out a r then -/
def Psp {α : Type} (arg : α → List D) (pre : α → Prop) (post : α → D → Prop) (out : α → D → List D := fun a _ => arg a) : VSp := fun ds Q _ => ∃ a, ds = arg a ∧ pre a ∧ ∀ r, post a r → Q r (out a r)
theorem Psp.mono {α : Type} {arg : α → List D} {pre : α → Prop} {post : α → D → Prop} {out : α → D → List D} : Mono (Psp arg pre post out) := fun _ _ _ _ _ h _ ⟨a, e, p, q⟩ => ⟨a, e, p, fun r z => h _ _ (q r z)⟩
/-- the same by a function of the arguments -/
def Fsp {α : Type} (arg : α → List D) (pre : α → Prop) (res : α → D) (out : α → List D := arg) : VSp := fun ds Q _ => ∃ a, ds = arg a ∧ pre a ∧ Q (res a) (out a)
theorem Fsp.mono {α : Type} {arg : α → List D} {pre : α → Prop} {res : α → D} {out : α → List D} : Mono (Fsp arg pre res out) := fun _ _ _ _ _ h _ ⟨a, e, p, q⟩ => ⟨a, e, p, h _ _ q⟩
/-! ### loops -/
section
variable {N : VEnds} {ε : Ep} {g : VTG} {b : VTS} {d : D} {ds : List D}
theorem e_forNil : vForL g b [] N ε ↔ N.nx ε := Iff.rfl
theorem e_forCons : vForL g b (d :: ds) N ε ↔ g d ε fun ε1 => b { N with nx := fun ε' => vForL g b ds N ε', ct := fun ε' => vForL g b ds N ε', bk := N.nx } ε1 := Iff.rfl
end
end VL
/-! VL20: sizes of numbers, by literals. -/
namespace VL
open PySem PySem.Spec PyProof.Rows L2 VL
theorem pmod_lit (i : Int) (n : Nat) [NeZero n] : pmod i (no_index (OfNat.ofNat n)) = i % (OfNat.ofNat n) := if_pos (by
  have : 0 < n := Nat.pos_of_ne_zero (NeZero.ne n)
  show (0 : Int) < (n : Int)
  omega)
theorem pdiv_lit (i : Int) (n : Nat) [NeZero n] : pdiv i (no_index (OfNat.ofNat n)) = i / (OfNat.ofNat n) := if_pos (by
  have : 0 < n := Nat.pos_of_ne_zero (NeZero.ne n)
  show (0 : Int) < (n : Int)
  omega)
theorem pmod_pos {i j : Int} (h : 0 < j) : pmod i j = i % j := if_pos h
theorem pdiv_pos {i j : Int} (h : 0 < j) : pdiv i j = i / j := if_pos h
theorem cml_r {i j : Int} (h : j.natAbs < 18446744073709551616) : CMl i j ↔ True := ⟨fun _ => trivial, fun _ => .inl (.inr h)⟩
theorem cml_l {i j : Int} (h : i.natAbs < 18446744073709551616) : CMl i j ↔ True := ⟨fun _ => trivial, fun _ => .inl (.inl h)⟩
theorem cml_lit_r (i : Int) (n : Nat) (h : n < 18446744073709551616) : CMl i (no_index (OfNat.ofNat n)) ↔ True := cml_r h
theorem cml_lit_l (i : Int) (n : Nat) (h : n < 18446744073709551616) : CMl (no_index (OfNat.ofNat n)) i ↔ True := cml_l h
theorem cpow_lit (m n : Nat) (h1 : n ≤ 1000000) (h2 : m < 18446744073709551616) : CPow (no_index (OfNat.ofNat m)) (no_index (OfNat.ofNat n)) ↔ True := ⟨fun _ => trivial, fun _ => ⟨Int.natCast_nonneg n, by show ((n : Nat) : Int) ≤ 1000000; omega, h2⟩⟩
theorem cdv_of {i j : Int} (h : j ≠ 0) (h2 : j.natAbs < 18446744073709551616) : CDv i j := ⟨h, by
  have h3 : j.natAbs ≠ 0 := by omega
  have : j.natAbs.log2 < 64 := (Nat.log2_lt h3).mpr h2
  omega⟩
theorem cdv_lit (i : Int) (n : Nat) [NeZero n] (h : n < 18446744073709551616) : CDv i (no_index (OfNat.ofNat n)) ↔ True := ⟨fun _ => trivial, fun _ => cdv_of (by
  have : 0 < n := Nat.pos_of_ne_zero (NeZero.ne n)
  show (n : Int) ≠ 0
  omega) h⟩
theorem cutL_len {α : Type} (xs : List α) (lo hi : Option Int) : (cutL xs lo hi).length ≤ xs.length := by
  unfold cutL
  rw [List.length_take, List.length_drop]
  omega
theorem ixN_nat {n i : Nat} (h : i < n) : ixN n (i : Int) = some i := by
  unfold ixN
  rw [if_pos (by omega), if_pos (by omega), Int.toNat_natCast]
theorem ixN_pos {n : Nat} {i : Int} (h0 : 0 ≤ i) (h : i < n) : ixN n i = some i.toNat := by
  unfold ixN
  rw [if_pos h0, if_pos h]
theorem ixN_lit (n i : Nat) (h : i < n) : ixN n (no_index (OfNat.ofNat i)) = some i := ixN_nat h
theorem getP_nilE {d : D} : getP d [] = some d := getP_nil d
theorem setP_nilE {d e : D} : setP d [] e = e := by cases d <;> rfl
theorem e_forU {N : VEnds} {ε : Ep} {g : VTG} {b b' : VTS} {d : D} {ds : List D} (h : b = b') : vForL g b (d :: ds) N ε ↔ g d ε fun ε1 => b' { N with nx := fun ε' => vForL g b ds N ε', ct := fun ε' => vForL g b ds N ε', bk := N.nx } ε1 := by subst h; rfl
theorem ix_str {s : Cs} {i : Int} (h0 : 0 ≤ i) (h : i < s.length) (hz : s.length < 1000000) : ixD (.str s) (.int i) = some (.str [s[i.toNat]'(by omega)]) := by
  show (if s.length < 1000000 then (ixN s.length i).bind fun j => (s[j]?).map fun c => D.str [c] else none) = _
  rw [if_pos hz, ixN_pos h0 h]
  show (s[i.toNat]?).map (fun c => D.str [c]) = _
  rw [List.getElem?_eq_getElem (by omega)]
  rfl
theorem e_app {ds : List D} {y : D} {P : List D → D → Prop} : (∃ ds' res, muAppend ds [y] = some (ds', res) ∧ P ds' res) ↔ ds.length < 1000000 ∧ P (ds ++ [y]) .non := by
  constructor
  · rintro ⟨ds', res, h, p⟩
    have h : (if ds.length < 1000000 then some (ds ++ [y], D.non) else none) = some (ds', res) := h
    by_cases z : ds.length < 1000000
    · rw [if_pos z] at h; cases h; exact ⟨z, p⟩
    · rw [if_neg z] at h; cases h
  · rintro ⟨z, p⟩
    exact ⟨_, _, if_pos z, p⟩
theorem lst_inj {m n : Bool} {a b : List D} : (D.lst m a = D.lst n b) = (m = n ∧ a = b) := D.lst.injEq ..
theorem isT_nonetype_int : isT "NoneType" "int" = false := by decide
theorem isT_nonetype_bool : isT "NoneType" "bool" = false := by decide
theorem isT_nonetype_str : isT "NoneType" "str" = false := by decide
theorem isT_nonetype_list : isT "NoneType" "list" = false := by decide
theorem isT_nonetype_tuple : isT "NoneType" "tuple" = false := by decide
theorem isT_nonetype_dict : isT "NoneType" "dict" = false := by decide
theorem isT_int_int : isT "int" "int" = true := by decide
theorem isT_int_bool : isT "int" "bool" = false := by decide
theorem isT_int_str : isT "int" "str" = false := by decide
theorem isT_int_list : isT "int" "list" = false := by decide
theorem isT_int_tuple : isT "int" "tuple" = false := by decide
theorem isT_int_dict : isT "int" "dict" = false := by decide
theorem isT_bool_int : isT "bool" "int" = true := by decide
theorem isT_bool_bool : isT "bool" "bool" = true := by decide
theorem isT_bool_str : isT "bool" "str" = false := by decide
theorem isT_bool_list : isT "bool" "list" = false := by decide
theorem isT_bool_tuple : isT "bool" "tuple" = false := by decide
theorem isT_bool_dict : isT "bool" "dict" = false := by decide
theorem isT_str_int : isT "str" "int" = false := by decide
theorem isT_str_bool : isT "str" "bool" = false := by decide
theorem isT_str_str : isT "str" "str" = true := by decide
theorem isT_str_list : isT "str" "list" = false := by decide
theorem isT_str_tuple : isT "str" "tuple" = false := by decide
theorem isT_str_dict : isT "str" "dict" = false := by decide
theorem isT_list_int : isT "list" "int" = false := by decide
theorem isT_list_bool : isT "list" "bool" = false := by decide
theorem isT_list_str : isT "list" "str" = false := by decide
theorem isT_list_list : isT "list" "list" = true := by decide
theorem isT_list_tuple : isT "list" "tuple" = false := by decide
theorem isT_list_dict : isT "list" "dict" = false := by decide
theorem isT_tuple_int : isT "tuple" "int" = false := by decide
theorem isT_tuple_bool : isT "tuple" "bool" = false := by decide
theorem isT_tuple_str : isT "tuple" "str" = false := by decide
theorem isT_tuple_list : isT "tuple" "list" = false := by decide
theorem isT_tuple_tuple : isT "tuple" "tuple" = true := by decide
theorem isT_tuple_dict : isT "tuple" "dict" = false := by decide
theorem isT_dict_int : isT "dict" "int" = false := by decide
theorem isT_dict_bool : isT "dict" "bool" = false := by decide
theorem isT_dict_str : isT "dict" "str" = false := by decide
theorem isT_dict_list : isT "dict" "list" = false := by decide
theorem isT_dict_tuple : isT "dict" "tuple" = false := by decide
theorem isT_dict_dict : isT "dict" "dict" = true := by decide
theorem inT_int : ("int" ∈ tys) = True := eq_true (by decide)
theorem inT_bool : ("bool" ∈ tys) = True := eq_true (by decide)
theorem inT_str : ("str" ∈ tys) = True := eq_true (by decide)
theorem inT_list : ("list" ∈ tys) = True := eq_true (by decide)
theorem inT_tuple : ("tuple" ∈ tys) = True := eq_true (by decide)
theorem inT_dict : ("dict" ∈ tys) = True := eq_true (by decide)
end VL
/-! VL21: views: expressions that only read, over things that are ours. -/
namespace VL
open PySem PySem.Spec PyProof.Rows L2 VL
section
variable {K : PySem.W.Frag} {G H H' : Hp}
theorem Rp.view (hs : Sub G H) {d : D} {v : V} {F : List Addr} (r : Rp K G H d v F) : Rp K H H (frz d) v [] := Rp.freeze hs (fun _ _ => rfl) r
theorem Rp.up {d : D} {v : V} (r : Rp K H H d v []) (h : Sub H H') : Rp K H' H' d v [] := r.mono h fun _ z => nomatch z
theorem RpL.up {ds : List D} {vs : List V} (r : RpL K H H ds vs []) (h : Sub H H') : RpL K H' H' ds vs [] := r.mono h fun _ z => nomatch z
theorem si_view {ds : List D} {vs : List V} (r : RpL K H H ds vs []) : SIx K (callB H H []) H [] [] [] H [] ds vs :=
  ⟨Sub.refl, Sub.refl, ⟨rfl, rfl⟩, r, List.nodup_nil, (fun _ z => nomatch z), (fun _ z => nomatch z), (fun a o e => .inl e), (fun a o e _ => e), fun j v e => by simp [callB] at e⟩
end
/-- a view's reading: the slots stay as they are -/
abbrev VTV := Ep → (D → Prop) → Prop
abbrev VTVs := Ep → (List D → Prop) → Prop
structure VV (X : Cv) (e : Expr) (t : VTV) : Prop where
  ex : ∃ t' : WX → TE, (∀ W, Takes X.toCx W → PE X.toCx e (t' W)) ∧ ∀ (b : Bx X) σ H ε T Tv W (Q : D → Prop) (Q' : VK), SI X.K b.1 σ H ε T Tv → t ε Q →
    (∀ d v H', Sub H H' → Rp X.K H' H' d v [] → Q d → Q' v H') → t' W σ H Q'
structure VVs (X : Cv) (es : List Expr) (t : VTVs) : Prop where
  ex : ∃ t' : WX → TA, (∀ W, Takes X.toCx W → PA X.toCx es (t' W)) ∧ ∀ (b : Bx X) σ H ε T Tv W (Q : List D → Prop) (Q' : List V → Hp → Prop), SI X.K b.1 σ H ε T Tv → t ε Q →
    (∀ ds vs H', Sub H H' → RpL X.K H' H' ds vs [] → ds.length = es.length → Q ds → Q' vs H') → t' W σ H Q'
section
variable {X : Cv}
def wName (i : Nat) : VTV := fun ε Q => ∃ d, ε[i]? = some (some d) ∧ Q (frz d)
def wC (d : D) : VTV := fun _ Q => Q d
def wNil : VTVs := fun _ Q => Q []
def wCons (t : VTV) (u : VTVs) : VTVs := fun ε Q => t ε fun d => u ε fun ds => Q (d :: ds)
def wOp (op : List D → (D → Prop) → Prop) (t : VTVs) : VTV := fun ε Q => t ε fun ds => op ds fun d => Q (frz d)
def w2 (a b : VTV) : VTVs := wCons a (wCons b wNil)
def w1 (a : VTV) : VTVs := wCons a wNil
def wCall (vsp : VSp) (t : VTVs) : VTV := fun ε Q => t ε fun ds => vsp ds (fun r _ => Q (frz r)) (fun _ _ _ => False)
def wTup (t : VTVs) : VTV := fun ε Q => t ε fun ds => ds.length ≤ 1000 ∧ Q (.tup ds)
def vView (t : VTV) : VTE := fun _ ε Q => t ε fun d => flatD d = true ∧ Q d ε
def vViewT (t : VTV) : VTT := fun _ ε Q => t ε fun d => ∃ c, d = .bl c ∧ Q c ε
theorem wv_name (i : Nat) {x : Str} {pos : Pos} (hN : X.N[i]? = some x := by rfl) (hv : Vis X.env.scope x := by first | exact Or.inl rfl | exact Or.inr (Or.inl rfl) | exact Or.inr (Or.inr rfl)) (hd : (x == ("__debug__" : Str)) = false := by decide) (hcd : (x == ("__classdict__" : Str)) = false := by decide) : VV X (.Name x pos) (wName i) := by
  refine ⟨fun _ => tVar i, fun _ _ => pe_var hN hv hd hcd, fun b σ H ε T Tv W Q Q' I h k => ?_⟩
  obtain ⟨d, e, q⟩ := h
  obtain ⟨v, hs, J⟩ := I.mov e
  obtain ⟨G, F, su, r⟩ := J.last I.lenT
  exact ⟨v, hs, k (frz d) v H Sub.refl (r.view su) q⟩
theorem wv_of {e : Expr} {v : V} {d : D} (h : PE X.toCx e (tC v)) (r : ∀ G H, Rp X.K G H d v []) : VV X e (wC d) :=
  ⟨fun _ => tC v, fun _ _ => h, fun b σ H ε T Tv W Q Q' I q k => k d v H Sub.refl (r H H) q⟩
theorem wv_int {i j pos} : VV X (.Constant (.int i) j pos) (wC (.int i)) := wv_of pe_int fun _ _ => ⟨rfl, rfl⟩
theorem wv_bl {b j pos} : VV X (.Constant (.bool b) j pos) (wC (.bl b)) := wv_of pe_bl fun _ _ => ⟨rfl, rfl⟩
theorem wv_non {j pos} : VV X (.Constant .none j pos) (wC .non) := wv_of pe_non fun _ _ => ⟨rfl, rfl⟩
theorem wv_str {s : Cs} {x : Str} {j pos} (h : x.cps.toList = s) : VV X (.Constant (.str x) j pos) (wC (.str s)) := wv_of pe_str fun _ _ => ⟨by rw [← h, toS_cps], rfl⟩
theorem wv_ty {x : Str} {T : String} {pos : Pos} (hg : Gl X.toCx x) (hm : X.mg x = none) (hv : bootBuiltins x = some (.type T)) (hn : x ≠ "__name__" := by decide) (hd : (x == ("__debug__" : Str)) = false := by decide) : VV X (.Name x pos) (wC (.ty T)) :=
  wv_of (pe_bltn hg hm hv (v := .ty T) rfl hn hd) fun _ _ => ⟨rfl, rfl⟩
theorem wv_globI {x : Str} {i : Int} {pos : Pos} (hg : Gl X.toCx x) (hm : ∃ t, X.mg x = some (.int i t)) (hd : (x == ("__debug__" : Str)) = false := by decide) : VV X (.Name x pos) (wC (.int i)) :=
  let ⟨t, h⟩ := hm; wv_of (pe_glob hg h (v := .int i) ⟨t, rfl⟩ hd) fun _ _ => ⟨rfl, rfl⟩
theorem wv_globS {x z : Str} {s : Cs} {pos : Pos} (hg : Gl X.toCx x) (hm : ∃ t, X.mg x = some (.str z t)) (hz : z.cps.toList = s) (hd : (x == ("__debug__" : Str)) = false := by decide) : VV X (.Name x pos) (wC (.str s)) :=
  let ⟨t, h⟩ := hm; wv_of (pe_glob hg h (v := .str z) ⟨t, rfl⟩ hd) fun _ _ => ⟨by rw [← hz, toS_cps], rfl⟩
theorem wvs_nil : VVs X [] wNil := ⟨fun _ => tNil, fun _ _ => pa_nil, fun b σ H ε T Tv W Q Q' I q k => k [] [] H Sub.refl ⟨rfl, rfl⟩ rfl q⟩
theorem wvs_cons {e : Expr} {es : List Expr} {t : VTV} {u : VTVs} (h : VV X e t) (k : VVs X es u) (hs : starEach (e :: es) X.env = (false, eval e X.env) :: starEach es X.env := by rfl) : VVs X (e :: es) (wCons t u) := by
  obtain ⟨t', h1, h2⟩ := h.ex
  obtain ⟨u', k1, k2⟩ := k.ex
  refine ⟨fun W => tCons (t' W) (u' W), fun W tk => pa_cons (h1 W tk) (k1 W tk) hs, fun b σ H ε T Tv W Q Q' I q z => ?_⟩
  refine h2 b σ H ε T Tv W _ _ I q fun d v H1 s1 r1 q1 => ?_
  refine k2 b σ H1 ε T Tv W _ _ (I.grow s1) q1 fun ds vs H2 s2 r2 l q2 => ?_
  exact z (d :: ds) (v :: vs) H2 (s1.trans s2) ⟨v, vs, [], [], rfl, rfl, r1.up s2, r2⟩ (by simp [l]) q2
/-- an operation on views -/
theorem OpN.look {K : PySem.W.Frag} {r : List V → Hp → VK → Prop} {op : List D → (D → Prop) → Prop} (h : OpN K r op) {H : Hp} {ds : List D} {vs : List V} {Q : D → Prop} {Q' : VK} (rr : RpL K H H ds vs []) (q : op ds fun d => Q (frz d))
    (k : ∀ d v H', Sub H H' → Rp K H' H' d v [] → Q d → Q' v H') : r vs H Q' := by
  have I : SI K (callB H H []) [] H [] ([] ++ ds) ([] ++ vs) := ⟨H, [], [], si_view rr⟩
  refine h (callB H H []) [] H [] [] [] ds vs _ Q' rfl rr.len I q fun d v H' s J z => ?_
  have J2 : SI K (callB H H []) [] H' [] (ds ++ [d]) (vs ++ [v]) := by simpa using J
  obtain ⟨G, F, su, rd⟩ := J2.last rr.len
  exact k (frz d) v H' s (rd.view su) z
theorem wv_bin {e1 e2 : Expr} {o : Operator} {ta tb : VTV} {r : R2} {op : List D → (D → Prop) → Prop} {pos : Pos} (ho : OpR X.toCx (binaryOp o) r) (hp : OpN X.K (r2N r) op) (ha : VV X e1 ta) (hb : VV X e2 tb) : VV X (.BinOp e1 o e2 pos) (wOp op (w2 ta tb)) := by
  obtain ⟨ta', a1, a2⟩ := ha.ex
  obtain ⟨tb', b1, b2⟩ := hb.ex
  refine ⟨fun W => tOp r (ta' W) (tb' W), fun W tk => pe_op ho (a1 W tk) (b1 W tk), fun b σ H ε T Tv W Q Q' I q k => ?_⟩
  refine a2 b σ H ε T Tv W _ _ I q fun d v H1 s1 r1 q1 => b2 b σ H1 ε T Tv W _ _ (I.grow s1) q1 fun d2 v2 H2 s2 r2 q2 => ?_
  obtain ⟨v', w', e, z⟩ := hp.look (ds := [d, d2]) (vs := [v, v2]) (H := H2) (Q' := Q') ⟨v, _, [], [], rfl, rfl, r1.up s2, v2, [], [], [], rfl, rfl, r2, rfl, rfl⟩ q2 fun d v H' s r z => k d v H' ((s1.trans s2).trans s) r z
  obtain ⟨rfl, e2⟩ := List.cons.inj e
  obtain ⟨rfl, _⟩ := List.cons.inj e2
  exact z
theorem wv_cmp {e1 e2 : Expr} {o : CmpOp} {ta tb : VTV} {r : R2} {op : List D → (D → Prop) → Prop} {pos : Pos} (ho : OpR X.toCx (compareOp o) r) (hp : OpN X.K (r2N r) op) (ha : VV X e1 ta) (hb : VV X e2 tb) (hm : behindInMarks o e2 = false) : VV X (.Compare e1 [o] [e2] pos) (wOp op (w2 ta tb)) := by
  obtain ⟨ta', a1, a2⟩ := ha.ex
  obtain ⟨tb', b1, b2⟩ := hb.ex
  refine ⟨fun W => tOp r (ta' W) (tb' W), fun W tk => pe_cmpR ho (a1 W tk) (b1 W tk) hm, fun b σ H ε T Tv W Q Q' I q k => ?_⟩
  refine a2 b σ H ε T Tv W _ _ I q fun d v H1 s1 r1 q1 => b2 b σ H1 ε T Tv W _ _ (I.grow s1) q1 fun d2 v2 H2 s2 r2 q2 => ?_
  obtain ⟨v', w', e, z⟩ := hp.look (ds := [d, d2]) (vs := [v, v2]) (H := H2) (Q' := Q') ⟨v, _, [], [], rfl, rfl, r1.up s2, v2, [], [], [], rfl, rfl, r2, rfl, rfl⟩ q2 fun d v H' s r z => k d v H' ((s1.trans s2).trans s) r z
  obtain ⟨rfl, e2⟩ := List.cons.inj e
  obtain ⟨rfl, _⟩ := List.cons.inj e2
  exact z
theorem vt_cmpW {e1 e2 : Expr} {o : CmpOp} {ta tb : VTV} {r : R2} {op : List D → (D → Prop) → Prop} {pos : Pos} (ho : OpR X.toCx (compareOp o) r) (hp : OpN X.K (r2N r) op) (ha : VV X e1 ta) (hb : VV X e2 tb) (hm : behindInMarks o e2 = false) : VT X (.Compare e1 [o] [e2] pos) (vViewT (wOp op (w2 ta tb))) := by
  obtain ⟨ta', a1, a2⟩ := ha.ex
  obtain ⟨tb', b1, b2⟩ := hb.ex
  refine ⟨fun W => tTest (tOp r (ta' W) (tb' W)), fun W tk => pt_cmpR ho (a1 W tk) (b1 W tk) hm, fun b σ H ε T Tv W N Q Q' I q k x => ?_⟩
  refine a2 b σ H ε T Tv W _ _ I q fun d v H1 s1 r1 q1 => b2 b σ H1 ε T Tv W _ _ (I.grow s1) q1 fun d2 v2 H2 s2 r2 q2 => ?_
  obtain ⟨v', w', e, z⟩ := hp.look (ds := [d, d2]) (vs := [v, v2]) (H := H2) (Q := fun d => ∃ c, d = .bl c ∧ Q c ε) (Q' := fun u H' => ∃ c, u = .bl c ∧ Q' c H') ⟨v, _, [], [], rfl, rfl, r1.up s2, v2, [], [], [], rfl, rfl, r2, rfl, rfl⟩ q2 fun d v H' s r z => by
    obtain ⟨c, rfl, z⟩ := z
    obtain ⟨rfl, _⟩ := r
    exact ⟨c, rfl, k c ε H' (I.grow ((s1.trans s2).trans s)) z⟩
  obtain ⟨rfl, e2⟩ := List.cons.inj e
  obtain ⟨rfl, _⟩ := List.cons.inj e2
  exact z
theorem wv_un {e1 : Expr} {o : UnaryOp} {ta : VTV} {r : V → Hp → VK → Prop} {op : List D → (D → Prop) → Prop} {pos : Pos} (ho : UnR X.toCx (unaryOp o) r) (hp : OpN X.K (r1N r) op) (ha : VV X e1 ta) : VV X (.UnaryOp o e1 pos) (wOp op (w1 ta)) := by
  obtain ⟨ta', a1, a2⟩ := ha.ex
  refine ⟨fun W => tUn r (ta' W), fun W tk => pe_un ho (a1 W tk), fun b σ H ε T Tv W Q Q' I q k => ?_⟩
  refine a2 b σ H ε T Tv W _ _ I q fun d v H1 s1 r1 q1 => ?_
  obtain ⟨v', e, z⟩ := hp.look (ds := [d]) (vs := [v]) (H := H1) (Q' := Q') (RpL.one.mpr r1) q1 fun d v H' s r z => k d v H' (s1.trans s) r z
  obtain ⟨rfl, _⟩ := List.cons.inj e
  exact z
theorem wv_ix {a bb : Expr} {ta tb : VTV} {pos : Pos} {k : Nat} (hr : Room k X.A) (ha : VV X a ta) (hb : VV X bb tb) (hs : PlainIx bb) : VV X (.Subscript a bb pos) (wOp sIx (w2 ta tb)) := by
  obtain ⟨ta', a1, a2⟩ := ha.ex
  obtain ⟨tb', b1, b2⟩ := hb.ex
  refine ⟨fun W => tOp (rIxA X.K) (ta' W) (tb' W), fun W tk => pe_ix (ix_any hr) (a1 W tk) (b1 W tk) hs, fun b σ H ε T Tv W Q Q' I q k => ?_⟩
  refine a2 b σ H ε T Tv W _ _ I q fun d v H1 s1 r1 q1 => b2 b σ H1 ε T Tv W _ _ (I.grow s1) q1 fun d2 v2 H2 s2 r2 q2 => ?_
  obtain ⟨v', w', e, z⟩ := opn_ix.look (ds := [d, d2]) (vs := [v, v2]) (H := H2) (Q' := Q') ⟨v, _, [], [], rfl, rfl, r1.up s2, v2, [], [], [], rfl, rfl, r2, rfl, rfl⟩ q2 fun d v H' s r z => k d v H' ((s1.trans s2).trans s) r z
  obtain ⟨rfl, e2⟩ := List.cons.inj e
  obtain ⟨rfl, _⟩ := List.cons.inj e2
  exact z
theorem wv_callB {x : Str} {id : String} {p pos : Pos} {e : Expr} {es : List Expr} {t : VTVs} {r : List V → Hp → VK → Prop} {op : List D → (D → Prop) → Prop} (hc : CallR X.toCx (.builtin id) r) (hp : OpN X.K r op) (hg : Gl X.toCx x) (hm : X.mg x = none) (hv : bootBuiltins x = some (.builtin id)) (ha : VVs X (e :: es) t)
    (hn : x ≠ "__name__" := by decide) (hdb : (x == ("__debug__" : Str)) = false := by decide) (he : starEach (e :: es) X.env = (false, eval e X.env) :: starEach es X.env := by rfl) (hpl : (backTo pos (starEach es X.env)).any (·.1) = false := by rfl) : VV X (.Call (.Name x p) (e :: es) [] pos) (wOp op t) := by
  obtain ⟨t', a1, a2⟩ := ha.ex
  refine ⟨fun W => tCB r (t' W), fun W tk => pe_callB hc hg hm hv (a1 W tk) hn hdb he hpl, fun b σ H ε T Tv W Q Q' I q k => ?_⟩
  exact a2 b σ H ε T Tv W _ _ I q fun ds vs H1 s1 rr _ z => hp.look rr z fun d v H' s r z => k d v H' (s1.trans s) r z
theorem wv_callTy {x : Str} {ty : String} {p pos : Pos} {e : Expr} {es : List Expr} {t : VTVs} {r : List V → Hp → VK → Prop} {op : List D → (D → Prop) → Prop} (hc : CallR X.toCx (.type ty) r) (hp : OpN X.K r op) (hg : Gl X.toCx x) (hm : X.mg x = none) (hv : bootBuiltins x = some (.type ty)) (ha : VVs X (e :: es) t)
    (hn : x ≠ "__name__" := by decide) (hdb : (x == ("__debug__" : Str)) = false := by decide) (he : starEach (e :: es) X.env = (false, eval e X.env) :: starEach es X.env := by rfl) (hpl : (backTo pos (starEach es X.env)).any (·.1) = false := by rfl) : VV X (.Call (.Name x p) (e :: es) [] pos) (wOp op t) := by
  obtain ⟨t', a1, a2⟩ := ha.ex
  refine ⟨fun W => tCB r (t' W), fun W tk => pe_callTy hc hg hm hv (a1 W tk) hn hdb he hpl, fun b σ H ε T Tv W Q Q' I q k => ?_⟩
  exact a2 b σ H ε T Tv W _ _ I q fun ds vs H1 s1 rr _ z => hp.look rr z fun d v H' s r z => k d v H' (s1.trans s) r z
/-- a call of a def that only reads -/
theorem wv_call {x : Str} {p pos : Pos} {e : Expr} {es : List Expr} {t : VTVs} {k n : Nat} {vsp : VSp} (F : Fv X.prog X.w X.K X.mg X.base x k n vsp) (m : Mono vsp) (hr : Room k X.A) (hg : Gl X.toCx x) (hn : (e :: es).length = n) (ha : VVs X (e :: es) t)
    (hdb : (x == ("__debug__" : Str)) = false := by decide) (he : starEach (e :: es) X.env = (false, eval e X.env) :: starEach es X.env := by rfl) (hpl : (backTo pos (starEach es X.env)).any (·.1) = false := by rfl) :
    VV X (.Call (.Name x p) (e :: es) [] pos) (wCall vsp t) := by
  obtain ⟨f, fd, ps, hm, hk, hb, F⟩ := F.ex
  obtain ⟨t', a1, a2⟩ := ha.ex
  refine ⟨fun W => tCallS (Lift X.K n vsp) (WE W) (t' W), fun W tk => pe_callS F hr hg hm hk hb (fun σ => passAt tk σ) (a1 W tk) hdb he hpl, fun b σ H ε T Tv W Q Q' I q kk => ?_⟩
  refine a2 b σ H ε T Tv W _ _ I q fun ds vs H1 s1 rr l z => ?_
  refine ⟨H1, [], ds, si_view rr, by rw [l, hn], m _ _ _ _ _ (fun r ds' q' v H' I' => ?_) (fun _ _ _ z => z.elim) z⟩
  have l2 : ds'.length = vs.length := by
    have := I'.lenT
    simpa using this
  obtain ⟨G, F, su, rd⟩ := I'.last l2
  have s2 : Sub H1 H' := by
    obtain ⟨_, _, _, J⟩ := I'
    exact fun a o e => J.keep a o e (fun z => nomatch z)
  exact kk (frz r) v H' (s1.trans s2) (rd.view su) q'
theorem ve_view {e : Expr} {t : VTV} (h : VV X e t) : VE X e (vView t) := by
  obtain ⟨t', h1, h2⟩ := h.ex
  refine ⟨t', h1, fun b σ H ε T Tv W N Q Q' I q k x => ?_⟩
  refine h2 b σ H ε T Tv W _ _ I q fun d v H1 s1 r1 z => ?_
  refine k d v ε H1 ((I.grow s1).push fun G => ?_) z.2
  obtain ⟨z, _⟩ := z
  cases d <;> first | (exfalso; revert z; simp [flatD]; done) | exact r1
theorem vt_viewV {e : Expr} {t : VTV} (h : VV X e t) (he : ∀ whole, isTrue e X.env whole = (do let v ← whole; standAt e.pos; holding [v] (truthy v)) := by intro _; rfl) : VT X e (vViewT t) := by
  obtain ⟨t', h1, h2⟩ := h.ex
  refine ⟨fun W => tB (t' W), fun W tk => pt_val (h1 W tk) he, fun b σ H ε T Tv W N Q Q' I q k x => ?_⟩
  refine h2 b σ H ε T Tv W _ _ I q fun d v H1 s1 r1 z => ?_
  obtain ⟨c, rfl, z⟩ := z
  obtain ⟨rfl, _⟩ := r1
  exact ⟨c, rfl, k c ε H1 (I.grow s1) z⟩
/-! ### a statement that is never come to -/
def vNever : VTS := fun _ _ => False
theorem vs_never {st : Stmt} : VS X st vNever := ⟨fun _ => fun _ _ _ => False, fun _ _ => ⟨fun _ _ _ _ _ _ h => h.elim⟩, fun _ _ _ _ _ _ _ _ _ _ q _ _ => q.elim⟩
/-! ### a method of a built-in, which only reads -/
def isLst : D → Bool
  | .lst _ _ => true
  | _ => false
def isStr : D → Bool
  | .str _ => true
  | _ => false
def tyOk (T : String) (d : D) : Bool := (decide (T = "list") && isLst d) || (decide (T = "str") && isStr d)
theorem tyOk_run {K : PySem.W.Frag} {H : Hp} {T : String} {d : D} {v : V} {G : Hp} {F : List Addr} (hs : Sub G H) (h : tyOk T d = true) (r : Rp K G H d v F) : tyV K T v H := by
  unfold tyOk at h
  rw [Bool.or_eq_true, Bool.and_eq_true, Bool.and_eq_true, decide_eq_true_iff, decide_eq_true_iff] at h
  rcases h with ⟨rfl, h⟩ | ⟨rfl, h⟩
  · cases d with
    | lst m xs =>
      obtain ⟨p, vs, F', rfl, hq, _⟩ := r.seqD hs rfl
      rcases hq with hq | hq
      · exact .inl ⟨rfl, vs, hq⟩
      · cases m with
        | false => obtain ⟨a, us, e, s, _⟩ := r; cases e; exact .inl ⟨rfl, us, hs.sqL s⟩
        | true => obtain ⟨a, us, F2, e, s, _⟩ := r; cases e; exact .inl ⟨rfl, us, SqL.of s⟩
    | _ => cases h
  · cases d with
    | str s => obtain ⟨rfl, _⟩ := r; exact rfl
    | _ => cases h
def wMeth (T : String) (op : List D → (D → Prop) → Prop) (o : VTV) (t : VTVs) : VTV := fun ε Q => o ε fun c => tyOk T c = true ∧ t ε fun ds => op (c :: ds) fun d => Q (frz d)
theorem wv_meth {o e : Expr} {es : List Expr} {to : VTV} {t : VTVs} {T : String} {name : Str} {id : String} {r : V → List V → Hp → VK → Prop} {op : List D → (D → Prop) → Prop} {apos cpos : Pos} (pa : PlainAttrs T) (sl : Slot T name id) (ty : typeOf (.builtin id) = pure (.type "method_descriptor")) (mt : MtR X.toCx id r)
    (hp : OpN X.K (fun vs H Q => ∃ x xs, vs = x :: xs ∧ r x xs H Q) op) (ho : VV X o to) (ha : VVs X (e :: es) t)
    (hbase : attributeBase o name X.env (eval o X.env) = eval o X.env := by rfl)
    (hfew : ((backTo cpos (starEach (e :: es) X.env)).all (fun x => !x.1) && (backToKw cpos (keywordEach [] X.env)).all (fun x => x.1.isSome) && decide ((e :: es).length + ([] : List Keyword).length + (if ([] : List Keyword).isEmpty then 0 else 1) < 30)) = true := by rfl)
    (hline : (apos.endLine == cpos.line) = true := by rfl) (hs : starEach (e :: es) X.env = (false, eval e X.env) :: starEach es X.env := by rfl) (hplain : (backTo cpos (starEach es X.env)).any (·.1) = false := by rfl) :
    VV X (.Call (.Attribute o name apos) (e :: es) [] cpos) (wMeth T op to t) := by
  obtain ⟨o', a1, a2⟩ := ho.ex
  obtain ⟨t', b1, b2⟩ := ha.ex
  refine ⟨fun W => tBM X.K T r (o' W) (t' W), fun W tk => pe_bm pa sl ty mt (a1 W tk) (b1 W tk) hbase hfew hline hs hplain, fun b σ H ε T Tv W Q Q' I q k => ?_⟩
  refine a2 b σ H ε T Tv W _ _ I q fun d v H1 s1 r1 q1 => ?_
  refine ⟨tyOk_run Sub.refl q1.1 r1, b2 b σ H1 ε T Tv W _ _ (I.grow s1) q1.2 fun ds vs H2 s2 r2 l q2 => ?_⟩
  obtain ⟨x, xs, e0, z⟩ := hp.look (ds := d :: ds) (vs := v :: vs) (H := H2) (Q' := Q') ⟨v, vs, [], [], rfl, rfl, r1.up s2, r2⟩ q2 fun d v H' s r z => k d v H' ((s1.trans s2).trans s) r z
  obtain ⟨rfl, rfl⟩ := List.cons.inj e0
  exact z
/-- xs.index(x) -/
def sIndex : List D → (D → Prop) → Prop := fun ds Q => ∃ m ys x j, ds = [.lst m ys, x] ∧ ((flatD x && ys.all flatD) = true ∨ (okD 64 x && okD 64 (.lst m ys)) = true) ∧ ys.findIdx? (fun y => deq y x) = some j ∧ Q (.int (j : Nat))
def rIndexA (K : PySem.W.Frag) : V → List V → Hp → VK → Prop := fun x xs H Q => rIndex K x xs H Q ∨ rIndexD K x xs H Q
theorem mt_indexA {k : Nat} (hr : Room k X.A) : MtR X.toCx "list.index" (rIndexA X.K) := MtR.or mt_index (mt_indexD (by have := hr.un; omega))
end
end VL
/-! VL22: index, pop, any, all, name op= e. -/
namespace VL
open PySem PySem.Spec PyProof.Rows L2 VL
section
variable {K : PySem.W.Frag} {G H : Hp}
theorem RpL.getF {ds : List D} {vs : List V} {F : List Addr} {i : Nat} {d : D} (r : RpL K G H ds vs F) (h : ds[i]? = some d) : ∃ v B, vs[i]? = some v ∧ Rp K G H d v B := by
  obtain ⟨v, A, B, C, hv, _, rv, _⟩ := r.focus h
  exact ⟨v, B, hv, rv⟩
theorem pdL_get : ∀ {ys : List D} {j : Nat}, (pdL ys)[j]? = (ys[j]?).map pd
  | [], j => by simp [pdL]
  | y :: ys, 0 => by simp [pdL]
  | y :: ys, j + 1 => by
    have := pdL_get (ys := ys) (j := j)
    simpa [pdL] using this
theorem okDL_get {n : Nat} {ys : List D} (h : okDL n ys = true) {j : Nat} {y : D} (e : ys[j]? = some y) : okD n y = true := by
  rw [okDL_all] at h
  exact List.all_eq_true.mp h y (List.mem_of_getElem? e)
theorem opn_index : OpN K (fun vs H Q => ∃ x xs, vs = x :: xs ∧ rIndexA K x xs H Q) sIndex := OpN.pure fun G H ds vs F Q Q' hs r q k => by
  obtain ⟨m, ys, x, j, rfl, hk, hj, q⟩ := q
  obtain ⟨v, w, F1, F2, rfl, rl, rx⟩ := r.two
  refine ⟨v, [w], rfl, ?_⟩
  have fin : Q' (.int (j : Nat)) H := k (.int (j : Nat)) _ (fun _ _ _ => ⟨rfl, rfl⟩) q
  have hx : ∃ a us F', v = .ref a ∧ SqL K H a us ∧ RpL K G H ys us F' := by
    cases m with
    | false => obtain ⟨a, us, e, s, _, r⟩ := rl; exact ⟨a, us, _, e, hs.sqL s, r⟩
    | true => obtain ⟨a, us, F', e, s, _, r⟩ := rl; exact ⟨a, us, _, e, SqL.of s, r⟩
  obtain ⟨hjl, hjt, hjf⟩ := List.findIdx?_eq_some_iff_getElem.mp hj
  rcases hk with hk | hk
  · obtain ⟨a1, a2⟩ := Bool.and_eq_true_iff.mp hk
    obtain ⟨a, us, F', rfl, s, r⟩ := hx
    obtain ⟨i1, _⟩ := r.flat a2
    obtain ⟨z, B, hz, rz⟩ := r.getF (List.getElem?_eq_getElem hjl)
    refine .inl ⟨a, us, w, j, z, rfl, rfl, s, rx.flat a1, i1, hz, ?_, fun i z' hi hz' => ?_, fin⟩
    · rw [rz.flatEq (List.all_eq_true.mp a2 _ (List.getElem_mem hjl)) a1 rx]
      exact hjt
    · have hil : i < ys.length := by omega
      obtain ⟨z2, B2, hz2, rz2⟩ := r.getF (List.getElem?_eq_getElem hil)
      rw [hz'] at hz2
      cases hz2
      rw [rz2.flatEq (List.all_eq_true.mp a2 _ (List.getElem_mem hil)) a1 rx]
      have := hjf i hi
      simpa using this
  · obtain ⟨a1, a2⟩ := Bool.and_eq_true_iff.mp hk
    have rdp := rl.dp hs a2
    obtain ⟨a, us, F', rfl, s, r⟩ := hx
    have a3 : okDL 63 ys = true := by simpa [okD] using a2
    refine .inr ⟨a, w, pd x, pdL ys, j, pd ys[j], rfl, rfl, rdp, rx.dp hs a1, shp a2, shp a1, by rw [pdL_get, List.getElem?_eq_getElem hjl]; rfl, ?_, fun i z' hi hz' => ?_, fin⟩
    · rw [deq_pd (okDL_get a3 (List.getElem?_eq_getElem hjl)) a1]
      exact hjt
    · have hil : i < ys.length := by omega
      rw [pdL_get, List.getElem?_eq_getElem hil] at hz'
      cases hz'
      rw [deq_pd (okDL_get a3 (List.getElem?_eq_getElem hil)) a1]
      have := hjf i hi
      simpa using this
def idxOk (m : Bool) (ys : List D) (x : D) : Prop := (flatD x && ys.all flatD) = true ∨ (okD 64 x && okD 64 (.lst m ys)) = true
def idxAt (ys : List D) (x : D) : Option Nat := ys.findIdx? (fun y => deq y x)
theorem e_index {m : Bool} {ys : List D} {x : D} {Q : D → Prop} : sIndex [.lst m ys, x] Q ↔ idxOk m ys x ∧ ∃ j, idxAt ys x = some j ∧ Q (.int (j : Nat)) :=
  ⟨fun ⟨_, _, _, j, e, h, hj, q⟩ => by cases e; exact ⟨h, j, hj, q⟩, fun ⟨h, j, hj, q⟩ => ⟨_, _, _, j, rfl, h, hj, q⟩⟩
/-- any, all of a list of truths -/
def blsD : List D → Option (List Bool)
  | [] => some []
  | .bl b :: ds => (blsD ds).map (b :: ·)
  | _ => none
theorem bls_rp : ∀ {ds : List D} {vs : List V} {F : List Addr} {bs : List Bool}, RpL K G H ds vs F → blsD ds = some bs → vs = bs.map V.bl
  | [], vs, F, bs, r, h => by obtain ⟨rfl, _⟩ := r; cases h; rfl
  | .bl b :: ds, vs, F, bs, r, h => by
    obtain ⟨v, vs', F1, F2, rfl, rfl, ⟨rfl, _⟩, rs⟩ := r
    have h : (blsD ds).map (b :: ·) = some bs := h
    cases e : blsD ds with
    | none => rw [e] at h; cases h
    | some bs' =>
      rw [e] at h
      cases h
      rw [bls_rp rs e]
      rfl
  | .hole :: _, _, _, _, _, h => by cases h
  | .val _ :: _, _, _, _, _, h => by cases h
  | .non :: _, _, _, _, _, h => by cases h
  | .int _ :: _, _, _, _, _, h => by cases h
  | .str _ :: _, _, _, _, _, h => by cases h
  | .ty _ :: _, _, _, _, _, h => by cases h
  | .tup _ :: _, _, _, _, _, h => by cases h
  | .lst _ _ :: _, _, _, _, _, h => by cases h
  | .dK _ _ _ :: _, _, _, _, _, h => by cases h
  | .dT _ _ _ :: _, _, _, _, _, h => by cases h
  | .ins _ _ _ _ :: _, _, _, _, _, h => by cases h
def sAny : List D → (D → Prop) → Prop := fun ds Q => ∃ m xs bs, ds = [.lst m xs] ∧ blsD xs = some bs ∧ Q (.bl (bs.any id))
def sAll : List D → (D → Prop) → Prop := fun ds Q => ∃ m xs bs, ds = [.lst m xs] ∧ blsD xs = some bs ∧ Q (.bl (bs.all id))
theorem opn_any : OpN K (rAny K) sAny := OpN.pure fun G H ds vs F Q Q' hs r q k => by
  obtain ⟨m, xs, bs, rfl, hb, q⟩ := q
  obtain ⟨v, rfl, rl⟩ := r.one'
  have hx : ∃ a us F', v = .ref a ∧ SqL K H a us ∧ RpL K G H xs us F' := by
    cases m with
    | false => obtain ⟨a, us, e, s, _, r⟩ := rl; exact ⟨a, us, _, e, hs.sqL s, r⟩
    | true => obtain ⟨a, us, F', e, s, _, r⟩ := rl; exact ⟨a, us, _, e, SqL.of s, r⟩
  obtain ⟨a, us, F', rfl, s, r⟩ := hx
  rw [bls_rp r hb] at s
  exact ⟨a, bs, rfl, s, k (.bl _) _ (fun _ _ _ => ⟨rfl, rfl⟩) q⟩
theorem opn_all : OpN K (rAll K) sAll := OpN.pure fun G H ds vs F Q Q' hs r q k => by
  obtain ⟨m, xs, bs, rfl, hb, q⟩ := q
  obtain ⟨v, rfl, rl⟩ := r.one'
  have hx : ∃ a us F', v = .ref a ∧ SqL K H a us ∧ RpL K G H xs us F' := by
    cases m with
    | false => obtain ⟨a, us, e, s, _, r⟩ := rl; exact ⟨a, us, _, e, hs.sqL s, r⟩
    | true => obtain ⟨a, us, F', e, s, _, r⟩ := rl; exact ⟨a, us, _, e, SqL.of s, r⟩
  obtain ⟨a, us, F', rfl, s, r⟩ := hx
  rw [bls_rp r hb] at s
  exact ⟨a, bs, rfl, s, k (.bl _) _ (fun _ _ _ => ⟨rfl, rfl⟩) q⟩
theorem e_any {m : Bool} {xs : List D} {Q : D → Prop} : sAny [.lst m xs] Q ↔ ∃ bs, blsD xs = some bs ∧ Q (.bl (bs.any id)) := ⟨fun ⟨_, _, bs, e, h, q⟩ => by cases e; exact ⟨bs, h, q⟩, fun ⟨bs, h, q⟩ => ⟨_, _, bs, rfl, h, q⟩⟩
theorem e_all {m : Bool} {xs : List D} {Q : D → Prop} : sAll [.lst m xs] Q ↔ ∃ bs, blsD xs = some bs ∧ Q (.bl (bs.all id)) := ⟨fun ⟨_, _, bs, e, h, q⟩ => by cases e; exact ⟨bs, h, q⟩, fun ⟨bs, h, q⟩ => ⟨_, _, bs, rfl, h, q⟩⟩
theorem blsD_map (bs : List Bool) : blsD (bs.map D.bl) = some bs := by
  induction bs with
  | nil => rfl
  | cons b bs ih => show (blsD (bs.map D.bl)).map (b :: ·) = _; rw [ih]; rfl
end
section
variable {X : Cv}
/-- x.pop() at a place -/
theorem mp_pop {o : Expr} {i : Nat} {t : VTP} {apos cpos : Pos} (h : VP X o i t)
    (hbase : attributeBase o "pop" X.env (eval o X.env) = eval o X.env := by rfl) (hline : (apos.endLine == cpos.line) = true := by rfl) : VE X (.Call (.Attribute o "pop" apos) [] [] cpos) (vMut muPop i t vaNil) :=
  ve_mut0 h mu_pop PySem.F.slot_list_pop PySem.F.type_list_pop mt_pop hbase hline
theorem mp_clear {o : Expr} {i : Nat} {t : VTP} {apos cpos : Pos} (h : VP X o i t)
    (hbase : attributeBase o "clear" X.env (eval o X.env) = eval o X.env := by rfl) (hline : (apos.endLine == cpos.line) = true := by rfl) : VE X (.Call (.Attribute o "clear" apos) [] [] cpos) (vMut muClear i t vaNil) :=
  ve_mut0 h mu_clear PySem.F.slot_list_clear PySem.F.type_list_clear mt_clear hbase hline
theorem m_ext (i : Nat) {y : Str} {opos : Pos} {e : Expr} {es : List Expr} {rs : List (Option Nat)} {te : VTA} {apos cpos : Pos} (he : VA X (e :: es) rs te) (hrs : rs.all (· == none) = true := by rfl) (hN : X.N[i]? = some y := by rfl) (hv : Vis X.env.scope y := by first | exact Or.inl rfl | exact Or.inr (Or.inl rfl) | exact Or.inr (Or.inr rfl))
    (hd : (y == ("__debug__" : Str)) = false := by decide) (hcd : (y == ("__classdict__" : Str)) = false := by decide)
    (hbase : attributeBase (.Name y opos) "extend" X.env (eval (.Name y opos) X.env) = eval (.Name y opos) X.env := by rfl)
    (hfew : ((backTo cpos (starEach (e :: es) X.env)).all (fun x => !x.1) && (backToKw cpos (keywordEach [] X.env)).all (fun x => x.1.isSome) && decide ((e :: es).length + ([] : List Keyword).length + (if ([] : List Keyword).isEmpty then 0 else 1) < 30)) = true := by rfl)
    (hline : (apos.endLine == cpos.line) = true := by rfl) (hs : starEach (e :: es) X.env = (false, eval e X.env) :: starEach es X.env := by rfl) (hplain : (backTo cpos (starEach es X.env)).any (·.1) = false := by rfl) :
    VE X (.Call (.Attribute (.Name y opos) "extend" apos) (e :: es) [] cpos) (vMutN muExtend i te) := ve_mutN hN hv he hrs mu_extend PySem.F.slot_list_extend PySem.F.type_list_extend mt_extend hd hcd hbase hfew hline hs hplain
/-- name op= e, ints -/
def vAug (f : Int → Int → Int) (i : Nat) (t : VTE) : VTS := fun N ε => ∃ x : Int, ε[i]? = some (some (.int x)) ∧ t N.rx ε fun d ε1 => ∃ y, d = .int y ∧ i < ε1.length ∧ N.nx (ε1.set i (some (.int (f x y))))
theorem vs_aug {i : Nat} {x : Str} {e : Expr} {t : VTE} {pos pos' : Pos} {op : Operator} {f : Int → Int → Int} (ho : OpR X.toCx (inplaceOp op) (rI0 fun i j => .int (f i j))) (hN : X.N.Nodup) (h : VE X e t) (hi : X.N[i]? = some x := by rfl) (hx : Loc X.env.scope x := by first | exact Or.inl rfl | exact Or.inr rfl) (hk : X.κ[i]? ≠ some true := by exact ne_of_beq_false rfl)
    (hf : X.fn x = true ∨ X.env.scope.names.lookup x = some .local := by first | exact .inl rfl | exact .inr rfl) : VS X (.AugAssign (.Name x pos') op e pos) (vAug f i t) := by
  obtain ⟨t', h1, h2⟩ := h.ex
  have hp : PIp X.toCx op (rI0 fun i j => .int (f i j)) := ho
  refine ⟨fun W => tAug i (t' W) (rI0 fun i j => .int (f i j)), fun W tk => ps_aug hN hi hx (h1 W tk) hp hf, fun b σ H ε T Tv W N E I q l xl => ?_⟩
  obtain ⟨z, e0, q⟩ := q
  obtain ⟨v, hs, J⟩ := I.var e0 rfl
  obtain ⟨G, F, su, rv, _⟩ := J.last I.lenT
  subst rv
  refine ⟨.int z, hs, h2 b σ H ε T Tv W N.rx _ _ I q (fun d v ε1 H1 J1 q1 => ?_) xl⟩
  obtain ⟨y, rfl, hi1, q1⟩ := q1
  obtain ⟨G, F, su, rv, _⟩ := J1.last I.lenT
  subst rv
  have J2 := J1.pop I.lenT
  have J3 : SI X.K b.1 σ H1 ε1 (T ++ [.int (f z y)]) (Tv ++ [.int (f z y)]) := J2.push fun _ => ⟨rfl, rfl⟩
  exact ⟨z, y, rfl, rfl, l.nx _ H1 _ (J3.store I.lenT hi1 (b.free hk)) q1⟩
end
end VL
/-! VL23: name = [..] let stand still; what a block's own slots may be. -/
namespace VL
open PySem PySem.Spec PyProof.Rows L2 VL
theorem kap_of {κ : List Bool} {is : List Nat} (h : (is.all fun i => !(κ[i]? == some true)) = true) : ∀ i ∈ is, κ[i]? ≠ some true := fun i hi e => by
  have := List.all_eq_true.mp h i hi
  rw [e] at this
  cases this
section
variable {X : Cv}
theorem vs_setLcF {i : Nat} {y : Str} {py : Pos} {elt tg iter : Expr} {ifs : List Expr} {scope : Scope} {own : List (Str × Nat)} {pos spos : Pos} {wi : VTA} {g : VTG} {tt : VTT} {te : VTE} (hc : X.calm = true) (hN : X.N.Nodup) (ok : BlkOk X.N X.env.scope scope own) (hk : ∀ i ∈ own.map (·.2), X.κ[i]? ≠ some true) (hi : VI X tg iter wi)
    (hg : ∀ c : BI, VTo (X.blk c.1 c.2.1 scope c.2.2.1 c.2.2.2.1 c.2.2.2.2) (own.map (·.2)) tg g) (ht : ∀ c : BI, VTs (X.blk c.1 c.2.1 scope c.2.2.1 c.2.2.2.1 c.2.2.2.2) ifs tt) (he : ∀ c : BI, VE (X.blk c.1 c.2.1 scope c.2.2.1 c.2.2.2.1 c.2.2.2.2) elt te)
    (hy : X.N[i]? = some y) (hyl : X.env.scope.names.lookup y = some .local) (hky : X.κ[i]? ≠ some true) (hsw : swapsWith (.ListComp elt [⟨tg, iter, ifs, 0⟩] scope pos) (some (.Name y py)) spos.line X.env = pure true)
    (hs : ∀ x, foldedSetIterable iter X.env x = pure x := by intro _; rfl) : VS X (.Assign [.Name y py] (.ListComp elt [⟨tg, iter, ifs, 0⟩] scope pos) spos) (vAsg i (vStill (vLc (own.map (·.2)) wi g tt te))) := by
  obtain ⟨wi', w1, w2⟩ := hi.ex
  obtain ⟨g', tt', te', h1, h2, h3, run⟩ := lc_run hk hg ht he
  refine ⟨fun W => tAsg (tLc (wi' W) g' tt' te' (own.map (·.2))) (gName i), fun W tk => ps_setLc hc hN hy hyl hsw (w1 W tk) ok (fun s H C cl fp => h1 ⟨s, H, C, cl, fp⟩) (fun s H C cl fp => h2 ⟨s, H, C, cl, fp⟩) (fun s H C cl fp => h3 ⟨s, H, C, cl, fp⟩) hs, fun b σ H ε T Tv W N E I q l x => ?_⟩
  exact w2 b σ H ε T Tv W N.rx _ _ I q (fun ds R Rv J ε1 H1 I1 hr wk z => run b σ H1 ε1 T Tv R Rv ds J (fun acc ε' => i < ε'.length ∧ N.nx (ε'.set i (some (frz (.lst true acc))))) _ I1 I.lenT hr wk z fun acc v ε' H' I' z' => l.nx _ H' _ ((I'.freeze I.lenT).store I.lenT z'.1 (b.free hky)) z'.2) x
def wLst (t : VTVs) : VTV := fun ε Q => t ε fun ds => ds.length ≤ 1000 ∧ Q (.lst false ds)
theorem wv_tup {es : List Expr} {t : VTVs} {x1 : Nat} {pos : Pos} (h : VVs X es t) : VV X (.Tuple es x1 pos) (wTup t) := by
  obtain ⟨t', h1, h2⟩ := h.ex
  refine ⟨fun W => tTup (t' W), fun W tk => pe_tup (h1 W tk), fun b σ H ε T Tv W Q Q' I q k => ?_⟩
  refine h2 b σ H ε T Tv W _ _ I q fun ds vs H1 s1 rr l z => ?_
  refine ⟨k1000 (by rw [← rr.len]; exact z.1), fun p hp => k (.tup ds) _ _ (s1.trans (Sub.laid hp)) ⟨p, vs, rfl, upd_same, rr.up (Sub.laid hp)⟩ z.2⟩
theorem wv_lst {es : List Expr} {t : VTVs} {pos : Pos} (h : VVs X es t) : VV X (.List es pos) (wLst t) := by
  obtain ⟨t', h1, h2⟩ := h.ex
  refine ⟨fun W => tLst (t' W), fun W tk => pe_lst (h1 W tk), fun b σ H ε T Tv W Q Q' I q k => ?_⟩
  refine h2 b σ H ε T Tv W _ _ I q fun ds vs H1 s1 rr l z => ?_
  refine ⟨k1000 (by rw [← rr.len]; exact z.1), fun p hp => k (.lst false ds) _ _ (s1.trans (Sub.laid hp)) ⟨p, vs, rfl, SqL.of upd_same, rfl, rr.up (Sub.laid hp)⟩ z.2⟩
def wSl (t : VTV) (lo hi : Option Int → Prop) : VTV := fun ε Q => t ε fun x => ∀ a b, lo a → hi b → ∃ d, sliceD x a b = some d ∧ Q (frz d)
end
end VL
/-! VL24: for over what is ours: its items standing still, or changed one by one. -/
namespace VL
open PySem PySem.Spec PyProof.Rows L2 VL
def setAt {α : Type} (l : List α) (z : α) (i : Nat) (x : α) : List α := (l ++ List.replicate (i + 1 - l.length) z).set i x
theorem setAt_get {α : Type} {l : List α} {z : α} {i : Nat} {x : α} {j : Nat} {y : α} (h : (setAt l z i x)[j]? = some y) : (j = i ∧ y = x) ∨ (j ≠ i ∧ (l[j]? = some y ∨ y = z)) := by
  unfold setAt at h
  by_cases e : i = j
  · subst e
    rw [List.getElem?_set_self' ] at h
    left
    refine ⟨rfl, ?_⟩
    cases q : (l ++ List.replicate (i + 1 - l.length) z)[i]? with
    | none => rw [q] at h; cases h
    | some w => rw [q] at h; cases h; rfl
  · rw [List.getElem?_set_ne e] at h
    refine .inr ⟨fun q => e q.symm, ?_⟩
    by_cases hl : j < l.length
    · rw [List.getElem?_append_left hl] at h
      exact .inl h
    · rw [List.getElem?_append_right (by omega)] at h
      obtain ⟨_, h2⟩ := List.getElem?_eq_some_iff.mp h
      rw [List.getElem_replicate] at h2
      exact .inr h2.symm
theorem setAt_same {α : Type} {l : List α} {z : α} {i : Nat} {x : α} : (setAt l z i x)[i]? = some x := by
  unfold setAt
  rw [List.getElem?_set_self']
  have : i < (l ++ List.replicate (i + 1 - l.length) z).length := by simp; omega
  rw [List.getElem?_eq_getElem this]
  rfl
theorem setAt_other {α : Type} {l : List α} {z : α} {i j : Nat} {x y : α} (h : l[j]? = some y) (n : j ≠ i) : (setAt l z i x)[j]? = some y := by
  unfold setAt
  rw [List.getElem?_set_ne (fun e => n e.symm), List.getElem?_append_left (List.getElem?_eq_some_iff.mp h).1]
  exact h
/-- the context in which slot i is kept -/
abbrev Cv.kp (X : Cv) (i : Nat) : Cv := { X with κ := setAt X.κ false i true }
theorem bx_kp {X : Cv} (b : Bx X) (i : Nat) (v : V) : ∀ (j : Nat) u, ({ b.1 with kv := setAt b.1.kv none i (some v) } : Bs).kv[j]? = some (some u) → (X.kp i).κ[j]? = some true := fun j u e => by
  rcases setAt_get e with ⟨rfl, _⟩ | ⟨n, h | h⟩
  · exact setAt_same
  · exact setAt_other (b.2 j u h) n
  · cases h
section
variable {K : PySem.W.Frag} {b : Bs} {σ : L2.St} {H : Hp} {ε : Ep} {T : List D} {Tv : List V}
theorem SI.keepOn (I : SI K b σ H ε T Tv) {i : Nat} {v : V} (hs : σ[i]? = some (some v)) : SI K { b with kv := setAt b.kv none i (some v) } σ H ε T Tv := by
  obtain ⟨G, F, Ft, J⟩ := I
  refine ⟨G, F, Ft, J.s0, J.sub, J.slots, J.temps, J.nd, J.fr, J.own, J.gn, J.keep, fun j u e => ?_⟩
  rcases setAt_get e with ⟨rfl, h⟩ | ⟨n, h | h⟩
  · cases h; exact hs
  · exact J.kept j u h
  · cases h
theorem SI.keepOff {i : Nat} {v : V} (I : SI K { b with kv := setAt b.kv none i (some v) } σ H ε T Tv) (k0 : ∀ u, b.kv[i]? = some (some u) → u = v) : SI K b σ H ε T Tv ∧ σ[i]? = some (some v) := by
  obtain ⟨G, F, Ft, J⟩ := I
  have h := J.kept i v setAt_same
  refine ⟨⟨G, F, Ft, J.s0, J.sub, J.slots, J.temps, J.nd, J.fr, J.own, J.gn, J.keep, fun j u e => ?_⟩, h⟩
  by_cases n : j = i
  · subst n
    rw [k0 u e]
    exact h
  · exact J.kept j u (setAt_other e n)
theorem SI.kept0 (I : SI K b σ H ε T Tv) {i : Nat} {v : V} (hs : σ[i]? = some (some v)) : ∀ u, b.kv[i]? = some (some u) → u = v := fun u e => by
  obtain ⟨G, F, Ft, J⟩ := I
  have := J.kept i u e
  rw [hs] at this
  cases this
  rfl
end
theorem wk_own {K : PySem.W.Frag} {m : Bool} {ds : List D} {a : Addr} (hz : isFzL ds = true) : Wk K (Itl K a) ds [.lst m ds] [.ref a] := fun b σ H ε T Tv i hl I => by
  cases m with
  | false => exact wk_lst b σ H ε T Tv i hl I
  | true =>
    obtain ⟨G, F, Ft, J⟩ := id I
    obtain ⟨F1, F2, rfl, r1, r2⟩ := J.temps.split2 hl
    obtain ⟨a', vs, F', e, s, rfl, r⟩ := RpL.one.mp r2
    cases e
    have := r.fz hz
    subst this
    refine ⟨fun d hd => ?_, fun h => ⟨vs, SqL.of s, by rw [← r.len]; exact h⟩⟩
    obtain ⟨v, hv, rv⟩ := r.get hd
    refine ⟨⟨vs, v, SqL.of s, hv⟩, fun x H' y => ?_⟩
    obtain ⟨rfl, y⟩ := y
    have := y vs (SqL.of s)
    rw [hv] at this
    cases this
    have J2 := J.push (rv.mono (H' := H') Sub.refl fun _ z => nomatch z)
    exact ⟨G, F, _, by simpa only [List.append_assoc] using J2⟩
theorem wk_enumO {K : PySem.W.Frag} {m : Bool} {ds : List D} {a : Addr} (hz : isFzL ds = true) : Wk K (Ite K a) (enumD ds) [.lst m ds] [.ref a] := fun b σ H ε T Tv i hl I => by
  cases m with
  | false => exact wk_enum b σ H ε T Tv i hl I
  | true =>
    obtain ⟨G, F, Ft, J⟩ := id I
    obtain ⟨F1, F2, rfl, r1, r2⟩ := J.temps.split2 hl
    obtain ⟨a', vs, F', e, s, rfl, r⟩ := RpL.one.mp r2
    cases e
    have := r.fz hz
    subst this
    have s2 : SqL K H a vs := SqL.of s
    refine ⟨fun d hd => ?_, fun h => ⟨vs, s2, by rw [← r.len, ← enumD_len]; exact h⟩⟩
    obtain ⟨c, hc, rfl⟩ := enumD_get hd
    obtain ⟨v, hv, rv⟩ := r.get hc
    refine ⟨⟨vs, v, s2, hv⟩, fun x H' y => ?_⟩
    obtain ⟨p, w, rfl, hp, rfl, y⟩ := y
    have := y vs s2
    rw [hv] at this
    cases this
    have J1 := J.push (d := .int (i : Nat)) (v := .int (i : Nat)) ⟨rfl, rfl⟩
    have J2 := J1.push (rv.mono (H' := H) Sub.refl fun _ z => nomatch z)
    have I2 : SI K b σ H ε ((T ++ [.lst true ds]) ++ [.int (i : Nat), c]) ((Tv ++ [.ref a]) ++ [.int (i : Nat), v]) := ⟨G, F, _, by simpa only [List.append_assoc, List.cons_append, List.nil_append] using J2⟩
    have I3 := I2.newTup (lenApp hl rfl) hp
    simpa only [List.append_assoc] using I3
/-- what is walked, out of slot i -/
structure VIo (X : Cv) (tg iter : Expr) (i : Nat) (w : List D → List D) : Prop where
  ex : ∃ t' : WX → TI, (∀ W, Takes X.toCx W → PI X.toCx tg iter (t' W)) ∧ ∀ (b : Bx X) σ H ε T Tv W (m : Bool) (xs : List D) (Q' : It → Hp → Prop), SI X.K b.1 σ H ε T Tv → ε[i]? = some (some (.lst m xs)) → isFzL xs = true →
    (∀ v J, SI X.K b.1 σ H (ε.set i none) (T ++ [.lst m xs]) (Tv ++ [v]) → σ[i]? = some (some v) → Wk X.K J (w xs) [.lst m xs] [v] → Q' J H) → t' W σ H Q'
section
variable {X : Cv} {tg : Expr}
theorem vio_lst (i : Nat) {x : Str} {pos : Pos} (hN : X.N[i]? = some x := by rfl) (hv : Vis X.env.scope x := by first | exact Or.inl rfl | exact Or.inr (Or.inl rfl) | exact Or.inr (Or.inr rfl)) (hd : (x == ("__debug__" : Str)) = false := by decide) (hcd : (x == ("__classdict__" : Str)) = false := by decide) : VIo X tg (.Name x pos) i id := by
  refine ⟨fun W => iList X.K (tVar i), fun W tk => pi_list (pe_var hN hv hd hcd), fun b σ H ε T Tv W m xs Q' I e hz k => ?_⟩
  obtain ⟨v, hs, J⟩ := I.mov e
  obtain ⟨G, F, su, r⟩ := J.last I.lenT
  cases m with
  | false => obtain ⟨a, vs, rfl, s, _, _⟩ := r; exact ⟨_, hs, a, rfl, ⟨vs, su.sqL s⟩, k _ _ J hs (wk_own hz)⟩
  | true => obtain ⟨a, vs, F', rfl, s, _, _⟩ := r; exact ⟨_, hs, a, rfl, ⟨vs, SqL.of s⟩, k _ _ J hs (wk_own hz)⟩
theorem vio_enum (i : Nat) {x : Str} {p pos tpos npos : Pos} {elts : List Expr} {kk : Nat} (hg : Gl X.toCx "enumerate") (hm : X.mg "enumerate" = none) (hN : X.N[i]? = some x := by rfl) (hv : Vis X.env.scope x := by first | exact Or.inl rfl | exact Or.inr (Or.inl rfl) | exact Or.inr (Or.inr rfl)) (hd : (x == ("__debug__" : Str)) = false := by decide) (hcd : (x == ("__classdict__" : Str)) = false := by decide)
    (hs : starEach [Expr.Name x npos] X.env = [(false, eval (Expr.Name x npos) X.env)] := by rfl) : VIo X (.Tuple elts kk tpos) (.Call (.Name "enumerate" p) [.Name x npos] [] pos) i enumD := by
  refine ⟨fun W => iEnum X.K (tCons (tVar i) tNil), fun W tk => pi_enum hg hm (pa_cons (pe_var hN hv hd hcd) pa_nil hs) hs, fun b σ H ε T Tv W m xs Q' I e hz k => ?_⟩
  obtain ⟨v, hs, J⟩ := I.mov e
  obtain ⟨G, F, su, r⟩ := J.last I.lenT
  cases m with
  | false => obtain ⟨a, vs, rfl, s, _, _⟩ := r; exact ⟨_, hs, a, vs, rfl, su.sqL s, k _ _ J hs (wk_enumO hz)⟩
  | true => obtain ⟨a, vs, F', rfl, s, _, _⟩ := r; exact ⟨_, hs, a, vs, rfl, SqL.of s, k _ _ J hs (wk_enumO hz)⟩
/-- for over a list of ours in slot i, moved out for the while -/
def vForO (i : Nat) (w : List D → List D) (g : VTG) (body : VTS) : VTS := fun N ε => ∃ m xs, ε[i]? = some (some (.lst m xs)) ∧ isFzL xs = true ∧
  vForL g body (w xs) { nx := fun ε' => N.nx (ε'.set i (some (.lst m xs))), rt := fun d ε' => N.rt d (ε'.set i (some (.lst m xs))), rx := N.rx } (ε.set i none)
theorem vs_forO {iter : Expr} {body : List Stmt} {i : Nat} {w : List D → List D} {g : VTG} {t : VTS} {pos : Pos} (hp : PassesOwn (model X.prog X.w) X.A X.env X.xe) (hc : X.calm = true) (hi : VIo X tg iter i w) (hg : VTa (X.kp i) tg g) (hb : VSs (X.kp i) body t)
    (hs : ∀ x, foldedSetIterable iter X.env x = pure x := by intro _; rfl) : VS X (.For tg iter body [] pos) (vForO i w g t) := by
  obtain ⟨wi', w1, w2⟩ := hi.ex
  obtain ⟨g', g1, g2⟩ := hg.ex
  obtain ⟨t', t1, t2⟩ := hb.ex
  refine ⟨fun W => tFor (wi' W) g' (t' W), fun W tk => ps_for hp hc (w1 W tk) g1 (t1 W tk) hs, fun b σ H ε T Tv W N E I q l x => ?_⟩
  obtain ⟨m, xs, e0, hz, z⟩ := q
  refine w2 b σ H ε T Tv W m xs _ I e0 hz fun v J I1 hs0 wk => ?_
  have hl := I.lenT
  have k0 := I.kept0 hs0
  let b' : Bx (X.kp i) := ⟨{ b.1 with kv := setAt b.1.kv none i (some v) }, bx_kp b i v⟩
  generalize hN : ({ nx := fun ε' => N.nx (ε'.set i (some (.lst m xs))), rt := fun d ε' => N.rt d (ε'.set i (some (.lst m xs))), rx := N.rx } : VEnds) = N1 at z
  have I1' : SI X.K b'.1 σ H (ε.set i none) (T ++ [.lst m xs]) (Tv ++ [v]) := I1.keepOn hs0
  have fin : ∀ {σ H ε R Rv}, SI X.K b'.1 σ H ε (T ++ (.lst m xs :: R)) (Tv ++ (v :: Rv)) → SI X.K b.1 σ H (ε.set i (some (.lst m xs))) (T ++ R) (Tv ++ Rv) := fun J => by
    obtain ⟨J2, hs2⟩ := J.keepOff k0
    exact SI.midBack J2 hl hs2
  refine ⟨fun k m' σ H => m' = (w xs).length - k ∧ k ≤ (w xs).length ∧ ∃ ε, SI X.K b'.1 σ H ε (T ++ [.lst m xs]) (Tv ++ [v]) ∧ vForL g t ((w xs).drop k) N1 ε, ⟨(w xs).length, rfl, Nat.zero_le _, _, I1', z⟩, ?_⟩
  rintro k m' σ2 H2 ⟨rfl, hk, ε2, I2, z2⟩
  obtain ⟨go, stop⟩ := wk b'.1 σ2 H2 ε2 T Tv k hl I2
  by_cases hlt : k < (w xs).length
  · right
    rw [List.drop_eq_getElem_cons hlt] at z2
    obtain ⟨g0, gy⟩ := go (w xs)[k] (List.getElem?_eq_getElem hlt)
    refine ⟨g0, fun σ' H' => ∃ ε, SI X.K b'.1 σ' H' ε (T ++ [.lst m xs]) (Tv ++ [v]) ∧ vForL g t ((w xs).drop (k + 1)) N1 ε, fun σ' H' y => ⟨(w xs).length - (k + 1), by omega, rfl, hlt, y⟩, fun u H' y => ?_⟩
    have I3 := gy u H' y
    have hl2 : (T ++ [VL.D.lst m xs]).length = (Tv ++ [v]).length := by simp [hl]
    refine g2 b' σ2 H' ε2 (T ++ [.lst m xs]) (Tv ++ [v]) (w xs)[k] u _ _ (by simpa only [List.append_assoc] using I3) hl2 z2 fun ε4 σ4 H4 I4 z4 => ?_
    subst hN
    refine t2 b' σ4 H4 ε4 (T ++ [.lst m xs]) (Tv ++ [v]) W _ _ I4 z4 ⟨fun σ5 H5 ε5 I5 z5 => ⟨ε5, I5, z5⟩, fun σ5 H5 ε5 d5 v5 I5 z5 => ?_, fun σ5 H5 ε5 I5 z5 => ?_, fun σ5 H5 ε5 I5 z5 => ⟨ε5, I5, z5⟩⟩ fun cls dd σ5 H5 ε5 row v5 I5 e5 n5 => ?_
    · exact l.rt σ5 H5 _ d5 v5 (fin (R := [d5]) (Rv := [v5]) (by simpa using I5)) z5
    · have := fin (R := []) (Rv := []) I5
      exact l.nx σ5 H5 _ (by simpa using this) z5
    · obtain ⟨J5, _⟩ := SI.keepOff I5 k0
      exact x cls dd σ5 H5 ε5 row v5 (SI.midDrops (R := [.lst m xs]) (Rv := [v]) (by simpa using J5) hl rfl) e5 n5
  · left
    have e : k = (w xs).length := by omega
    subst e
    rw [List.drop_length] at z2
    subst hN
    have := fin (R := []) (Rv := []) I2
    exact ⟨stop (Nat.le_refl _), l.nx σ2 H2 _ (by simpa using this) z2⟩
/-! ### the items changed one by one -/
def vForBL (i j : Nat) (body : VTS) : List D → List D → VTS
  | [], acc, N, ε => N.nx (ε.set i (some (.lst true acc)))
  | d :: ds, acc, N, ε => j < ε.length ∧ body { nx := fun ε' => ∃ d', ε'[j]? = some (some d') ∧ vForBL i j body ds (acc ++ [d']) N (ε'.set j none), rt := fun _ _ => False, ct := fun ε' => ∃ d', ε'[j]? = some (some d') ∧ vForBL i j body ds (acc ++ [d']) N (ε'.set j none), rx := fun _ _ _ => False } (ε.set j (some d))
def vForB (i j : Nat) (body : VTS) : VTS := fun N ε => i ≠ j ∧ ∃ ds, ε[i]? = some (some (.lst true ds)) ∧ vForBL i j body ds [] N ((ε.set i none).set j none)
end
end VL
/-! VL25: for over the items of a list of ours, changed one by one. -/
namespace VL
open PySem PySem.Spec PyProof.Rows L2 VL
section
variable {K : PySem.W.Frag} {b : Bs} {σ : L2.St} {H : Hp} {ε : Ep} {T : List D} {Tv : List V}
theorem SI.pick {xs : List D} {a : Addr} {k : Nat} {d : D} (I : SI K b σ H ε (T ++ [.lst true xs]) (Tv ++ [.ref a])) (hl : T.length = Tv.length) (h : xs[k]? = some d) :
    ∃ u vs, H a = some (.lst vs) ∧ vs[k]? = some u ∧ SI K b σ H ε (T ++ [.lst true (xs.set k (.val u)), d]) (Tv ++ [.ref a, u]) := by
  obtain ⟨G, F, Ft, J⟩ := I
  obtain ⟨F1, F2, rfl, r1, r2⟩ := J.temps.split2 hl
  obtain ⟨a', vs, F', e, s, rfl, r⟩ := RpL.one.mp r2
  cases e
  obtain ⟨u, A, B, C, hu, rfl, rd, back⟩ := r.focus h
  have q := back G H (.val u) u [] Sub.refl (fun _ _ => rfl) ⟨rfl, rfl⟩
  rw [setSelf hu, List.append_nil] at q
  have pm : (F ++ (F1 ++ (a :: (A ++ B ++ C)))).Perm (F ++ (F1 ++ ((a :: (A ++ C)) ++ B))) := by
    apply List.perm_iff_count.mpr
    intro z
    simp only [List.count_append, List.count_cons]
    omega
  refine ⟨u, vs, s, hu, G, F, _, J.s0, J.sub, J.slots, r1.append (F2 := (a :: (A ++ C)) ++ B) ?_, pm.nodup_iff.mp J.nd, fun z hz => J.fr z (pm.mem_iff.mpr hz), fun z hz => J.own z (pm.mem_iff.mpr hz), J.gn, J.keep, J.kept⟩
  exact ⟨.ref a, [u], a :: (A ++ C), B, rfl, rfl, ⟨a, vs, A ++ C, rfl, s, rfl, q⟩, RpL.one.mpr rd⟩
theorem SI.unpick {xs : List D} {a : Addr} {k : Nat} {d : D} {u : V} (I : SI K b σ H ε (T ++ [.lst true xs, d]) (Tv ++ [.ref a, u])) (hl : T.length = Tv.length) (h : xs[k]? = some (.val u)) : SI K b σ H ε (T ++ [.lst true (xs.set k d)]) (Tv ++ [.ref a]) := by
  obtain ⟨G, F, Ft, J⟩ := I
  obtain ⟨F1, F2, rfl, r1, r2⟩ := J.temps.split2 hl
  obtain ⟨v', vs', X1, X2, e1, rfl, ra, v2, vs2, X3, X4, e2, rfl, rd, rfl, rfl⟩ := r2
  cases e1
  cases e2
  obtain ⟨a', vs, F', e, s, rfl, r⟩ := ra
  cases e
  obtain ⟨w, A, B, C, hw, rfl, rv, back⟩ := r.focus h
  obtain ⟨rfl, rfl⟩ := rv
  have q := back G H d w X3 Sub.refl (fun _ _ => rfl) rd
  rw [setSelf hw] at q
  have pm : (F ++ (F1 ++ (a :: (A ++ [] ++ C) ++ (X3 ++ [])))).Perm (F ++ (F1 ++ (a :: (A ++ X3 ++ C)))) := by
    apply List.perm_iff_count.mpr
    intro z
    simp only [List.count_append, List.count_cons, List.cons_append, List.count_nil]
    omega
  exact ⟨G, F, _, J.s0, J.sub, J.slots, r1.append (RpL.one.mpr ⟨a, vs, A ++ X3 ++ C, rfl, s, rfl, q⟩), pm.nodup_iff.mp J.nd, fun z hz => J.fr z (pm.mem_iff.mpr hz), fun z hz => J.own z (pm.mem_iff.mpr hz), J.gn, J.keep, J.kept⟩
end
section
variable {X : Cv}
theorem vs_forB {i j : Nat} {x y : Str} {px py pos : Pos} {body : List Stmt} {t : VTS} (hp : PassesOwn (model X.prog X.w) X.A X.env X.xe) (hc : X.calm = true) (hN : X.N.Nodup) (hb : VSs ((X.kp i).kp j) body t)
    (hi : X.N[i]? = some x := by rfl) (hv : Vis X.env.scope x := by first | exact Or.inl rfl | exact Or.inr (Or.inl rfl) | exact Or.inr (Or.inr rfl)) (hd : (x == ("__debug__" : Str)) = false := by decide) (hcd : (x == ("__classdict__" : Str)) = false := by decide)
    (hj : X.N[j]? = some y := by rfl) (hx : Loc X.env.scope y := by first | exact Or.inl rfl | exact Or.inr rfl) (hk : X.κ[j]? ≠ some true := by exact ne_of_beq_false rfl)
    (hf : X.fn y = true ∨ X.env.scope.names.lookup y = some .local := by first | exact .inl rfl | exact .inr rfl)
    (hs : ∀ v, foldedSetIterable (.Name x px) X.env v = pure v := by intro _; rfl) : VS X (.For (.Name y py) (.Name x px) body [] pos) (vForB i j t) := by
  obtain ⟨t', t1, t2⟩ := hb.ex
  refine ⟨fun W => tFor (iList X.K (tVar i)) (gName j) (t' W), fun W tk => ps_for hp hc (pi_list (pe_var hi hv hd hcd)) (pg_name hN hj hx hf) (t1 W tk) hs, fun b σ H ε T Tv W N E I q l xl => ?_⟩
  obtain ⟨hij, ds, e0, z⟩ := q
  obtain ⟨v, hs0, I1⟩ := I.mov e0
  have hl := I.lenT
  have k0 := I.kept0 hs0
  have hv0 : ∃ a vs, v = .ref a ∧ H a = some (.lst vs) := by
    obtain ⟨G, F, su, r⟩ := I1.last hl
    obtain ⟨a, vs, _, e, s, _⟩ := r
    exact ⟨a, vs, e, s⟩
  obtain ⟨a, vs0, rfl, ha0⟩ := hv0
  let bi : Bs := { b.1 with kv := setAt b.1.kv none i (some (V.ref a)) }
  have bfree : ∀ u, bi.kv[j]? ≠ some (some u) := fun u e => by
    rcases setAt_get e with ⟨h, _⟩ | ⟨_, h | h⟩
    · exact hij h.symm
    · exact b.free hk u h
    · cases h
  have I2 : SI X.K bi σ H ((ε.set i none).set j none) (T ++ [.lst true ds]) (Tv ++ [.ref a]) := (I1.keepOn hs0).forget1 j
  have hl1 : ∀ d : D, (T ++ [d]).length = (Tv ++ [V.ref a]).length := fun d => by simp [hl]
  refine ⟨.ref a, hs0, a, rfl, ⟨vs0, SqL.of ha0⟩, fun k m σ H => ∃ todo acc ε, m = todo.length ∧ k = acc.length ∧ SI X.K bi σ H ε (T ++ [.lst true (acc ++ todo)]) (Tv ++ [.ref a]) ∧ vForBL i j t todo acc N ε, ⟨ds.length, ds, [], _, rfl, rfl, I2, z⟩, ?_⟩
  rintro k m σ2 H2 ⟨todo, acc, ε2, rfl, rfl, J, z2⟩
  cases todo with
  | nil =>
    left
    rw [List.append_nil] at J
    obtain ⟨J2, hs2⟩ := J.keepOff k0
    obtain ⟨G, F, su, r⟩ := J2.last hl
    obtain ⟨a', vs, F', e, s, _, rl⟩ := r
    cases e
    have J3 := SI.midBack (R := []) (Rv := []) J2 hl hs2
    exact ⟨⟨vs, SqL.of s, by rw [← rl.len]; exact Nat.le_refl _⟩, l.nx σ2 H2 _ (by simpa using J3) z2⟩
  | cons d todo =>
    right
    have hg : (acc ++ d :: todo)[acc.length]? = some d := by simp
    obtain ⟨u, vs, hva, hvk, J2⟩ := J.pick hl hg
    have es : (acc ++ d :: todo).set acc.length (.val u) = acc ++ .val u :: todo := by simp
    rw [es] at J2
    obtain ⟨hjl, zb⟩ := z2
    refine ⟨⟨vs, u, SqL.of hva, hvk⟩, fun σ' H' => ∃ todo' acc' ε', todo'.length < (d :: todo).length ∧ acc'.length = acc.length + 1 ∧ SI X.K bi σ' H' ε' (T ++ [.lst true (acc' ++ todo')]) (Tv ++ [.ref a]) ∧ vForBL i j t todo' acc' N ε', fun σ' H' ⟨todo', acc', ε', h1, h2, h3, h4⟩ => ⟨todo'.length, h1, todo', acc', ε', rfl, h2.symm, h3, h4⟩, fun w H' y => ?_⟩
    obtain ⟨rfl, y⟩ := y
    have := y vs (SqL.of hva)
    rw [hvk] at this
    cases this
    have J3 := SI.store (T := T ++ [.lst true (acc ++ .val u :: todo)]) (Tv := Tv ++ [.ref a]) (d := d) (v := u) (i := j) (by simpa only [List.append_assoc, List.cons_append, List.nil_append] using J2) (hl1 _) hjl bfree
    have hsj : (σ2.set j (some u))[j]? = some (some u) := by
      rw [List.getElem?_set_self]
      rw [← J.lenS]
      exact hjl
    have J4 := J3.keepOn hsj
    have kj0 := J3.kept0 hsj
    let bb : Bx ((X.kp i).kp j) := ⟨{ bi with kv := setAt bi.kv none j (some u) }, fun j' u' e => by
      rcases setAt_get e with ⟨rfl, _⟩ | ⟨n, h | h⟩
      · exact setAt_same
      · exact setAt_other (bx_kp b i (.ref a) j' u' h) n
      · cases h⟩
    have bnd : ∀ σ5 H5 ε5, SI X.K bb.1 σ5 H5 ε5 (T ++ [.lst true (acc ++ .val u :: todo)]) (Tv ++ [.ref a]) → (∃ d', ε5[j]? = some (some d') ∧ vForBL i j t todo (acc ++ [d']) N (ε5.set j none)) →
        ∃ todo' acc' ε', todo'.length < (d :: todo).length ∧ acc'.length = acc.length + 1 ∧ SI X.K bi σ5 H5 ε' (T ++ [.lst true (acc' ++ todo')]) (Tv ++ [.ref a]) ∧ vForBL i j t todo' acc' N ε' := fun σ5 H5 ε5 I5 ⟨d', ed, zz⟩ => by
      obtain ⟨u', hu', I6⟩ := I5.mov ed
      obtain ⟨I7, hu2⟩ := I6.keepOff kj0
      rw [hu2] at hu'
      cases hu'
      have hp2 : (acc ++ D.val u :: todo)[acc.length]? = some (.val u) := by simp
      have I8 := SI.unpick (T := T) (Tv := Tv) (d := d') (u := u) (by simpa only [List.append_assoc, List.cons_append, List.nil_append] using I7) hl hp2
      have es2 : (acc ++ D.val u :: todo).set acc.length d' = (acc ++ [d']) ++ todo := by simp
      rw [es2] at I8
      exact ⟨todo, acc ++ [d'], _, by simp, by simp, I8, zz⟩
    exact t2 bb (σ2.set j (some u)) H' (ε2.set j (some d)) (T ++ [.lst true (acc ++ .val u :: todo)]) (Tv ++ [.ref a]) W _ _ J4 zb ⟨fun σ5 H5 ε5 I5 z5 => bnd σ5 H5 ε5 I5 z5, fun _ _ _ _ _ _ z5 => z5.elim, fun _ _ _ _ z5 => z5.elim, fun σ5 H5 ε5 I5 z5 => bnd σ5 H5 ε5 I5 z5⟩ fun _ _ _ _ _ _ _ _ _ _ n => n.elim
end
theorem vss_never {X : Cv} {st : List Stmt} : VSs X st vNever := ⟨fun _ => fun _ _ _ => False, fun _ _ => ⟨fun _ _ _ _ _ _ h => h.elim⟩, fun _ _ _ _ _ _ _ _ _ _ q _ _ => q.elim⟩
end VL
/-! VL26: graphs as plain data; the walk that finishes nodes. -/
namespace VL
open PySem PySem.Spec PyProof.Rows L2 VL
/-- an operand: a number, a name -/
abbrev Opd := Sum Int Cs
def opD : Opd → D
  | .inl i => .int i
  | .inr s => .str s
theorem opD_fz (a : Opd) : isFz (opD a) = true := by cases a <;> rfl
theorem opD_flat (a : Opd) : flatD (opD a) = true := by cases a <;> rfl
def Cs.good (s : Cs) : Bool := s.all fun c => decide (c < 1114112)
def Opd.good : Opd → Bool
  | .inl _ => true
  | .inr s => Cs.good s
theorem opD_ok {a : Opd} (h : a.good = true) (n : Nat) : okD n (opD a) = true := by
  cases a with
  | inl i => cases n <;> rfl
  | inr s => cases n <;> exact h
/-- a node of a graph -/
inductive Nd where
  | sum (x : Cs) (a : Opd) (s : Cs) (b : Opd) (to : Nat)
  | test (a : Opd) (s : Cs) (b : Opd) (y n : Nat)
  | fin
  | spin
abbrev cSum : Cs := [115, 117, 109]
abbrev cTest : Cs := [116, 101, 115, 116]
abbrev cEnd : Cs := [101, 110, 100]
abbrev cSpin : Cs := [115, 112, 105, 110]
def ndL : Nd → List D
  | .sum x a s b to => [.str cSum, .str x, opD a, .str s, opD b, .int (to : Int)]
  | .test a s b y n => [.str cTest, opD a, .str s, opD b, .int (y : Int), .int (n : Int)]
  | .fin => [.str cEnd]
  | .spin => [.str cSpin]
def ndD (x : Nd) : D := .tup (ndL x)
/-- its ways, the no ahead -/
def goals : Nd → List Nat
  | .sum _ _ _ _ to => [to]
  | .test _ _ _ y n => [n, y]
  | _ => []
def waysN : Nd → List Nat
  | .sum _ _ _ _ to => [to]
  | .test _ _ _ y n => [y, n]
  | _ => []
theorem waysN_eq (x : Nd) : waysN x = (goals x).reverse := by cases x <;> rfl
def Nd.good : Nd → Bool
  | .sum x a s b _ => Cs.good x && (a.good && (Cs.good s && b.good))
  | .test a s b _ _ => a.good && (Cs.good s && b.good)
  | _ => true
def Nd.ok (n : Nat) (x : Nd) : Prop := ∀ g ∈ goals x, g < n
theorem isFzL_nd (x : Nd) : isFzL (ndL x) = true := by cases x <;> simp [ndL, isFzL, isFz, opD_fz]
theorem isFz_nd (x : Nd) : isFz (ndD x) = true := isFzL_nd x
theorem frz_nd (x : Nd) : frz (ndD x) = ndD x := frz_id (isFz_nd x)
theorem isFzL_nds (g : List Nd) : isFzL (g.map ndD) = true := by rw [isFzL_all]; simp [isFz_nd]
theorem frzL_nds (g : List Nd) : frzL (g.map ndD) = g.map ndD := by
  rw [frzL_map, List.map_map]
  exact List.map_congr_left fun x _ => frz_nd x
theorem okD_nd {x : Nd} (h : x.good = true) {n : Nat} (hn : 1 ≤ n) : okD n (ndD x) = true := by
  obtain ⟨m, rfl⟩ : ∃ m, n = m + 1 := ⟨n - 1, by omega⟩
  show okDL m (ndL x) = true
  rw [okDL_all]
  cases x with
  | sum x a s b to =>
    simp only [Nd.good, Bool.and_eq_true] at h
    simp only [ndL, List.all_cons, List.all_nil, Bool.and_true, Bool.and_eq_true]
    refine ⟨?_, ?_, opD_ok h.2.1 m, ?_, opD_ok h.2.2.2 m, ?_⟩
    · cases m <;> rfl
    · cases m <;> exact h.1
    · cases m <;> exact h.2.2.1
    · cases m <;> rfl
  | test a s b y n =>
    simp only [Nd.good, Bool.and_eq_true] at h
    simp only [ndL, List.all_cons, List.all_nil, Bool.and_true, Bool.and_eq_true]
    refine ⟨?_, opD_ok h.1 m, ?_, opD_ok h.2.2 m, ?_, ?_⟩
    · cases m <;> rfl
    · cases m <;> exact h.2.1
    · cases m <;> rfl
    · cases m <;> rfl
  | fin => cases m <;> rfl
  | spin => cases m <;> rfl
theorem okDL_nds {g : List Nd} (h : ∀ x ∈ g, x.good = true) {n : Nat} (hn : 1 ≤ n) : okDL n (g.map ndD) = true := by
  rw [okDL_all, List.all_map]
  exact List.all_eq_true.mpr fun x hx => okD_nd (h x hx) hn
theorem okD_lnds {g : List Nd} (h : ∀ x ∈ g, x.good = true) (m : Bool) : okD 64 (.lst m (g.map ndD)) = true := okDL_nds h (n := 63) (by decide)
theorem deqL_self : ∀ {n : Nat} {xs : List D}, okDL n xs = true → deqL xs xs = true := by
  intro n xs h
  suffices key : ∀ (n : Nat) (d : D), okD n d = true → deq d d = true by
    induction xs with
    | nil => rfl
    | cons x xs ih =>
      obtain ⟨a, b⟩ := Bool.and_eq_true_iff.mp (show (okD n x && okDL n xs) = true by simpa [okDL] using h)
      show (deq x x && deqL xs xs) = true
      rw [key n x a, ih b]
      rfl
  intro n
  induction n with
  | zero =>
    intro d h
    cases d <;> first | rfl | (simp [okD] at h; done) | (simp [deq]; done)
  | succ n ih =>
    have l : ∀ xs : List D, okDL n xs = true → deqL xs xs = true := fun xs h => by
      induction xs with
      | nil => rfl
      | cons x xs ih2 =>
        obtain ⟨a, b⟩ := Bool.and_eq_true_iff.mp (show (okD n x && okDL n xs) = true by simpa [okDL] using h)
        show (deq x x && deqL xs xs) = true
        rw [ih x a, ih2 b]
        rfl
    intro d h
    cases d with
    | tup xs => exact l xs (by simpa [okD] using h)
    | lst m xs => exact l xs (by simpa [okD] using h)
    | _ => first | rfl | (simp [okD] at h; done) | (simp [deq]; done)
theorem deq_self {n : Nat} {d : D} (h : okD n d = true) : deq d d = true := by
  have : deqL [d] [d] = true := deqL_self (n := n) (by simp [okDL, h])
  simpa [deqL] using this
/-! ### the walk that finishes nodes: the trail's top is its head here -/
structure Wst where
  begun : List Nat
  trail : List (Nat × Nat)
  done : List Nat
section
variable (gl : Nat → List Nat)
def wstep : Wst → Wst
  | ⟨b, [], d⟩ => ⟨b, [], d⟩
  | ⟨b, (h, s) :: t, d⟩ => match (gl h)[s]? with
    | none => ⟨b, t, d ++ [h]⟩
    | some g => if g ∈ b then ⟨b, (h, s + 1) :: t, d⟩ else ⟨b ++ [g], (g, 0) :: (h, s + 1) :: t, d⟩
def wrun : Nat → Wst → Wst
  | 0, s => s
  | n + 1, s => if s.trail = [] then s else wrun n (wstep gl s)
/-- the numbers of the nodes, the one finished last ahead -/
def wfuel (n : Nat) : Nat := ((List.range n).map fun x => (gl x).length + 2).sum
def orderAt (n st : Nat) : List Nat := (wrun gl (wfuel gl n) ⟨[st], [(st, 0)], []⟩).done.reverse
def orderOf (n : Nat) : List Nat := orderAt gl n 0
def wmu (n : Nat) (s : Wst) : Nat := (((List.range n).filter fun x => decide (x ∉ s.begun)).map fun x => (gl x).length + 2).sum + (s.trail.map fun p => (gl p.1).length - p.2 + 1).sum
/-- what holds all along -/
structure WInvS (n st : Nat) (s : Wst) : Prop where
  rng : ∀ x ∈ s.begun, x < n
  le : ∀ p ∈ s.trail, p.2 ≤ (gl p.1).length
  mem : ∀ x, x ∈ s.begun ↔ x ∈ s.done ++ s.trail.map (·.1)
  nd : (s.done ++ s.trail.map (·.1)).Nodup
  nb : s.begun.Nodup
  last : (s.done ++ s.trail.map (·.1)).getLast? = some st
  dn : ∀ x ∈ s.done, ∀ g ∈ gl x, g ∈ s.begun
  tr : ∀ p ∈ s.trail, ∀ i g, i < p.2 → (gl p.1)[i]? = some g → g ∈ s.begun
  par : ∀ x ∈ s.done ++ s.trail.map (·.1), x ≠ st → ∃ A B p, s.done ++ s.trail.map (·.1) = A ++ x :: B ∧ p ∈ B ∧ x ∈ gl p
end
section
variable {gl : Nat → List Nat} {n : Nat}
theorem WInvS.start {st : Nat} (h0 : st < n) : WInvS gl n st ⟨[st], [(st, 0)], []⟩ where
  rng := fun x hx => by simp at hx; omega
  le := fun p hp => by simp at hp; subst hp; exact Nat.zero_le _
  mem := fun x => by simp
  nd := by simp
  nb := by simp
  last := rfl
  dn := fun x hx => by simp at hx
  tr := fun p hp i g hi => by simp at hp; subst hp; omega
  par := fun x hx hne => by simp at hx; exact absurd hx hne
theorem wstep_none {b : List Nat} {h k : Nat} {t : List (Nat × Nat)} {d : List Nat} (e : (gl h)[k]? = none) : wstep gl ⟨b, (h, k) :: t, d⟩ = ⟨b, t, d ++ [h]⟩ := by
  simp only [wstep, e]
theorem wstep_some {b : List Nat} {h k g : Nat} {t : List (Nat × Nat)} {d : List Nat} (e : (gl h)[k]? = some g) : wstep gl ⟨b, (h, k) :: t, d⟩ = if g ∈ b then ⟨b, (h, k + 1) :: t, d⟩ else ⟨b ++ [g], (g, 0) :: (h, k + 1) :: t, d⟩ := by
  simp only [wstep, e]
theorem WInvS.step {st : Nat} (hg : ∀ x < n, ∀ g ∈ gl x, g < n) {s : Wst} (I : WInvS gl n st s) : WInvS gl n st (wstep gl s) := by
  obtain ⟨b, t, d⟩ := s
  cases t with
  | nil => exact I
  | cons p t =>
    obtain ⟨h, k⟩ := p
    have hb : h ∈ b := (I.mem h).mpr (by simp)
    have kle : k ≤ (gl h).length := I.le (h, k) (by simp)
    cases e : (gl h)[k]? with
    | none =>
      rw [wstep_none e]
      have hk : k = (gl h).length := by
        have := List.getElem?_eq_none_iff.mp e
        omega
      have eo : (d ++ [h]) ++ t.map (·.1) = d ++ ((h, k) :: t).map (·.1) := by simp
      refine ⟨I.rng, fun p hp => I.le p (List.mem_cons_of_mem _ hp), fun x => ?_, ?_, I.nb, ?_, fun x hx g hgx => ?_, fun p hp => I.tr p (List.mem_cons_of_mem _ hp), ?_⟩
      · show x ∈ b ↔ x ∈ (d ++ [h]) ++ t.map (·.1)
        rw [eo]; exact I.mem x
      · show ((d ++ [h]) ++ t.map (·.1)).Nodup
        rw [eo]; exact I.nd
      · show ((d ++ [h]) ++ t.map (·.1)).getLast? = some st
        rw [eo]; exact I.last
      · rcases List.mem_append.mp hx with hx | hx
        · exact I.dn x hx g hgx
        · simp at hx
          subst hx
          obtain ⟨i, hi⟩ := List.mem_iff_getElem?.mp hgx
          exact I.tr (x, k) (by simp) i g (by rw [hk]; exact (List.getElem?_eq_some_iff.mp hi).1) hi
      · show ∀ x ∈ (d ++ [h]) ++ t.map (·.1), x ≠ st → ∃ A B p, (d ++ [h]) ++ t.map (·.1) = A ++ x :: B ∧ p ∈ B ∧ x ∈ gl p
        rw [eo]; exact I.par
    | some g =>
      have kl := (List.getElem?_eq_some_iff.mp e).1
      have gm : g ∈ gl h := List.mem_of_getElem? e
      rw [wstep_some e]
      split
      · rename_i hgb
        have em : ((h, k + 1) :: t).map (·.1) = ((h, k) :: t).map (·.1) := rfl
        refine ⟨I.rng, fun p hp => ?_, I.mem, I.nd, I.nb, I.last, I.dn, fun p hp i y hi hy => ?_, I.par⟩
        · rcases List.mem_cons.mp hp with rfl | hp
          · exact kl
          · exact I.le p (List.mem_cons_of_mem _ hp)
        · rcases List.mem_cons.mp hp with rfl | hp
          · by_cases hik : i = k
            · subst hik
              have : some g = some y := e.symm.trans hy
              cases this
              exact hgb
            · exact I.tr (h, k) (by simp) i y (by simp at hi; omega) hy
          · exact I.tr p (List.mem_cons_of_mem _ hp) i y hi hy
      · rename_i hgb
        have gn : g ∉ d ++ ((h, k) :: t).map (·.1) := fun z => hgb ((I.mem g).mpr z)
        have em : d ++ ((g, 0) :: (h, k + 1) :: t).map (·.1) = d ++ g :: ((h, k) :: t).map (·.1) := rfl
        refine ⟨fun x hx => ?_, fun p hp => ?_, fun x => ?_, ?_, List.nodup_append.mpr ⟨I.nb, by simp, fun a ha c hc e2 => by simp at hc; exact hgb (by rw [← hc, ← e2]; exact ha)⟩, ?_, fun x hx y hy => List.mem_append_left _ (I.dn x hx y hy), fun p hp i y hi hy => ?_, ?_⟩
        · rcases List.mem_append.mp hx with hx | hx
          · exact I.rng x hx
          · simp at hx; subst hx; exact hg h (I.rng h hb) x gm
        · rcases List.mem_cons.mp hp with rfl | hp
          · exact Nat.zero_le _
          rcases List.mem_cons.mp hp with rfl | hp
          · exact kl
          · exact I.le p (List.mem_cons_of_mem _ hp)
        · show x ∈ b ++ [g] ↔ x ∈ d ++ ((g, 0) :: (h, k + 1) :: t).map (·.1)
          rw [em, List.mem_append, I.mem x]
          simp only [List.mem_append, List.mem_cons, List.not_mem_nil, or_false]
          constructor
          · rintro ((h1 | h1) | h1)
            · exact .inl h1
            · exact .inr (.inr h1)
            · exact .inr (.inl h1)
          · rintro (h1 | h1 | h1)
            · exact .inl (.inl h1)
            · exact .inr h1
            · exact .inl (.inr h1)
        · show (d ++ g :: ((h, k) :: t).map (·.1)).Nodup
          have pm : (d ++ g :: ((h, k) :: t).map (·.1)).Perm (g :: (d ++ ((h, k) :: t).map (·.1))) := List.perm_middle
          exact pm.nodup_iff.mpr (List.nodup_cons.mpr ⟨gn, I.nd⟩)
        · show (d ++ g :: ((h, k) :: t).map (·.1)).getLast? = some st
          have h1 := I.last
          have : ∀ (A B : List Nat), B ≠ [] → (A ++ B).getLast? = B.getLast? := fun A B hB => by
            rw [List.getLast?_append]
            cases hq : B.getLast? with
            | none => exact absurd (List.getLast?_eq_none_iff.mp hq) hB
            | some z => rfl
          have h2 : (d ++ ((h, k) :: t).map (·.1)).getLast? = (((h, k) :: t).map (·.1)).getLast? := this _ _ (by simp)
          have h1' : (d ++ ((h, k) :: t).map (·.1)).getLast? = some st := h1
          rw [this _ _ (by simp), List.getLast?_cons]
          rw [h2] at h1'
          rw [h1']
          rfl
        · rcases List.mem_cons.mp hp with rfl | hp
          · simp at hi
          rcases List.mem_cons.mp hp with rfl | hp
          · by_cases hik : i = k
            · subst hik
              have : some g = some y := e.symm.trans hy
              cases this
              simp
            · exact List.mem_append_left _ (I.tr (h, k) (by simp) i y (by simp at hi; omega) hy)
          · exact List.mem_append_left _ (I.tr p (List.mem_cons_of_mem _ hp) i y hi hy)
        · show ∀ x ∈ d ++ g :: ((h, k) :: t).map (·.1), x ≠ st → ∃ A B p, d ++ g :: ((h, k) :: t).map (·.1) = A ++ x :: B ∧ p ∈ B ∧ x ∈ gl p
          intro x hx hne
          by_cases hxg : x = g
          · subst hxg
            exact ⟨d, ((h, k) :: t).map (·.1), h, rfl, by simp, gm⟩
          · have hx2 : x ∈ d ++ ((h, k) :: t).map (·.1) := by
              rcases List.mem_append.mp hx with hx | hx
              · exact List.mem_append_left _ hx
              · rcases List.mem_cons.mp hx with hx | hx
                · exact absurd hx hxg
                · exact List.mem_append_right _ hx
            obtain ⟨A, B, p, eo, hp, hxp⟩ := I.par x hx2 hne
            have eo : d ++ ((h, k) :: t).map (·.1) = A ++ x :: B := eo
            rcases List.append_eq_append_iff.mp eo with ⟨C, e1, e2⟩ | ⟨C, e1, e2⟩
            · -- A = d ++ C
              exact ⟨d ++ g :: C, B, p, by rw [e2]; simp, hp, hxp⟩
            · -- d = A ++ C
              cases C with
              | nil =>
                have e2' : x :: B = ((h, k) :: t).map (·.1) := e2
                exact ⟨d ++ [g], B, p, by rw [← e2']; simp, hp, hxp⟩
              | cons c C =>
                obtain ⟨rfl, rfl⟩ := List.cons.inj e2
                refine ⟨A, C ++ g :: ((h, k) :: t).map (·.1), p, by rw [e1]; simp, ?_, hxp⟩
                rcases List.mem_append.mp hp with hp | hp
                · exact List.mem_append_left _ hp
                · exact List.mem_append_right _ (List.mem_cons_of_mem _ hp)
theorem sum_without {f : Nat → Nat} {P : Nat → Bool} {g : Nat} : ∀ {l : List Nat}, l.Nodup → g ∈ l → P g = true → ((l.filter fun x => P x && !(x == g)).map f).sum + f g = ((l.filter P).map f).sum
  | [], _, h, _ => by cases h
  | x :: l, nd, h, hp => by
    obtain ⟨n1, n2⟩ := List.nodup_cons.mp nd
    by_cases e : x = g
    · subst e
      have : (l.filter fun y => P y && !(y == x)) = l.filter P := by
        apply List.filter_congr
        intro y hy
        have : (y == x) = false := by
          rw [beq_eq_false_iff_ne]
          exact fun z => n1 (z ▸ hy)
        rw [this]
        simp
      rw [List.filter_cons_of_neg (by simp), List.filter_cons_of_pos hp, this, List.map_cons, List.sum_cons]
      omega
    · have hl : g ∈ l := by
        rcases List.mem_cons.mp h with h | h
        · exact absurd h.symm e
        · exact h
      have ih := sum_without (f := f) (P := P) n2 hl hp
      have hx : (x == g) = false := by rw [beq_eq_false_iff_ne]; exact e
      cases hP : P x with
      | true =>
        rw [List.filter_cons_of_pos (by rw [hP, hx]; rfl), List.filter_cons_of_pos hP, List.map_cons, List.map_cons, List.sum_cons, List.sum_cons]
        omega
      | false =>
        rw [List.filter_cons_of_neg (by rw [hP]; simp), List.filter_cons_of_neg (by rw [hP]; simp)]
        exact ih
theorem wmu_step {st : Nat} (hg : ∀ x < n, ∀ g ∈ gl x, g < n) {s : Wst} (I : WInvS gl n st s) (ht : s.trail ≠ []) : wmu gl n (wstep gl s) < wmu gl n s := by
  obtain ⟨b, t, d⟩ := s
  cases t with
  | nil => exact absurd rfl ht
  | cons p t =>
    obtain ⟨h, k⟩ := p
    have hb : h ∈ b := (I.mem h).mpr (by simp)
    have kle : k ≤ (gl h).length := I.le (h, k) (by simp)
    cases e : (gl h)[k]? with
    | none =>
      rw [wstep_none e]
      simp only [wmu, List.map_cons, List.sum_cons]
      omega
    | some g =>
      have kl := (List.getElem?_eq_some_iff.mp e).1
      rw [wstep_some e]
      split
      · simp only [wmu, List.map_cons, List.sum_cons]
        omega
      · rename_i hgb
        have gn : g < n := hg h (I.rng h hb) g (List.mem_of_getElem? e)
        have := sum_without (f := fun x => (gl x).length + 2) (P := fun x => decide (x ∉ b)) (g := g) List.nodup_range (List.mem_range.mpr gn) (by simpa using hgb)
        have ef : ((List.range n).filter fun x => decide (x ∉ b ++ [g])) = (List.range n).filter fun x => decide (x ∉ b) && !(x == g) := by
          apply List.filter_congr
          intro x _
          by_cases h1 : x ∈ b <;> by_cases h2 : x = g <;> simp [h1, h2]
        simp only [wmu, List.map_cons, List.sum_cons]
        rw [ef]
        omega
theorem wrun_inv {st : Nat} (hg : ∀ x < n, ∀ g ∈ gl x, g < n) : ∀ {m : Nat} {s : Wst}, WInvS gl n st s → wmu gl n s ≤ m → WInvS gl n st (wrun gl m s) ∧ (wrun gl m s).trail = []
  | 0, s, I, h => by
    refine ⟨I, ?_⟩
    show s.trail = []
    cases e : s.trail with
    | nil => rfl
    | cons p t =>
      have : s.trail ≠ [] := by rw [e]; simp
      have := wmu_step hg I this
      omega
  | m + 1, s, I, h => by
    unfold wrun
    split
    · rename_i e; exact ⟨I, e⟩
    · rename_i e
      exact wrun_inv hg (I.step hg) (by have := wmu_step hg I e; omega)
theorem wmu_start {st : Nat} (h0 : st < n) : wmu gl n ⟨[st], [(st, 0)], []⟩ ≤ wfuel gl n := by
  have := sum_without (f := fun x => (gl x).length + 2) (P := fun _ => true) (g := st) List.nodup_range (List.mem_range.mpr h0) rfl
  have ef : ((List.range n).filter fun x => decide (x ∉ [st])) = (List.range n).filter fun x => true && !(x == st) := by
    apply List.filter_congr
    intro x _
    by_cases h2 : x = st <;> simp [h2]
  have e2 : ((List.range n).filter fun _ => true) = List.range n := by simp
  rw [e2] at this
  simp only [wmu, wfuel, List.map_cons, List.map_nil, List.sum_cons, List.sum_nil]
  rw [ef]
  omega
/-! ### each way back goes to one from which one came -/
inductive Pthv (f : Nat → List Nat) (S : Nat → Prop) (a : Nat) : Nat → Prop
  | self : S a → Pthv f S a a
  | step {k t : Nat} : Pthv f S a k → t ∈ f k → S t → Pthv f S a t
theorem Pthv.mono {f : Nat → List Nat} {S S' : Nat → Prop} {a k : Nat} (h : ∀ y, S y → S' y) (p : Pthv f S a k) : Pthv f S' a k := by
  induction p with
  | self s => exact .self (h _ s)
  | step _ m s ih => exact .step ih m (h _ s)
def Anc (gl : Nat → List Nat) (L : List Nat) (g x : Nat) : Prop := List.Sublist [g, x] L ∨ Pthv gl (fun y => y = g ∨ List.Sublist [y, g] L) g x
theorem Anc.mono {L L' : List Nat} {g x : Nat} (h : L.Sublist L') : Anc gl L g x → Anc gl L' g x
  | .inl a => .inl (a.trans h)
  | .inr p => .inr (p.mono fun _ hy => hy.imp id fun z => z.trans h)
structure WAnc (gl : Nat → List Nat) (s : Wst) : Prop where
  ch : ∀ (i : Nat) (p q : Nat × Nat), s.trail[i]? = some p → s.trail[i + 1]? = some q → p.1 ∈ gl q.1
  dn : ∀ x ∈ s.done, ∀ g ∈ gl x, Anc gl (s.done ++ s.trail.map (·.1)) g x
  tr : ∀ p ∈ s.trail, ∀ i g, i < p.2 → (gl p.1)[i]? = some g → Anc gl (s.done ++ s.trail.map (·.1)) g p.1
theorem trail_path {L : List Nat} : ∀ (t : List (Nat × Nat)) (g : Nat), (∀ (i : Nat) (p q : Nat × Nat), t[i]? = some p → t[i + 1]? = some q → p.1 ∈ gl q.1) → (t.map (·.1)).Sublist L → g ∈ t.map (·.1) → ∀ h, (t.map (·.1)).head? = some h → Pthv gl (fun y => y = g ∨ List.Sublist [y, g] L) g h
  | [], g, _, _, hg, _, _ => by cases hg
  | [p], g, _, _, hg, h, hh => by
    simp at hg hh
    subst hg
    subst hh
    exact .self (.inl rfl)
  | p :: q :: t, g, ch, sl, hg, h, hh => by
    simp at hh
    subst hh
    by_cases e : g = p.1
    · subst e; exact .self (.inl rfl)
    · have hg2 : g ∈ (q :: t).map (·.1) := by
        rcases List.mem_cons.mp hg with z | z
        · exact absurd z e
        · exact z
      have sl2 : ((q :: t).map (·.1)).Sublist L := (List.sublist_cons_self p.1 _).trans sl
      have ih := trail_path (q :: t) g (fun i a b h1 h2 => ch (i + 1) a b h1 h2) sl2 hg2 q.1 rfl
      refine .step ih (ch 0 p q rfl rfl) (.inr (List.Sublist.trans ?_ sl))
      exact List.Sublist.cons_cons p.1 (List.singleton_sublist.mpr hg2)
theorem WAnc.start {st : Nat} : WAnc gl ⟨[st], [(st, 0)], []⟩ where
  ch := fun i p q _ h2 => by simp at h2
  dn := fun x hx => by simp at hx
  tr := fun p hp i g hi => by simp at hp; subst hp; omega
theorem WAnc.step {st : Nat} {s : Wst} (I : WInvS gl n st s) (J : WAnc gl s) : WAnc gl (wstep gl s) := by
  obtain ⟨b, t, d⟩ := s
  cases t with
  | nil => exact J
  | cons p t =>
    obtain ⟨h, k⟩ := p
    have kle : k ≤ (gl h).length := I.le (h, k) (by simp)
    cases e : (gl h)[k]? with
    | none =>
      rw [wstep_none e]
      have hk : k = (gl h).length := by
        have := List.getElem?_eq_none_iff.mp e
        omega
      have eo : (d ++ [h]) ++ t.map (·.1) = d ++ ((h, k) :: t).map (·.1) := by simp
      refine ⟨fun i p q h1 h2 => J.ch (i + 1) p q h1 h2, fun x hx g hg => ?_, fun p hp i g hi hgi => ?_⟩
      · show Anc gl ((d ++ [h]) ++ t.map (·.1)) g x
        rw [eo]
        rcases List.mem_append.mp hx with hx | hx
        · exact J.dn x hx g hg
        · simp at hx
          subst hx
          obtain ⟨i, hi⟩ := List.mem_iff_getElem?.mp hg
          exact J.tr (x, k) (by simp) i g (by rw [hk]; exact (List.getElem?_eq_some_iff.mp hi).1) hi
      · show Anc gl ((d ++ [h]) ++ t.map (·.1)) g p.1
        rw [eo]
        exact J.tr p (List.mem_cons_of_mem _ hp) i g hi hgi
    | some g =>
      have gm : g ∈ gl h := List.mem_of_getElem? e
      have hch : ∀ (i : Nat) (p q : Nat × Nat), ((h, k + 1) :: t)[i]? = some p → ((h, k + 1) :: t)[i + 1]? = some q → p.1 ∈ gl q.1 := fun i p q h1 h2 => by
        cases i with
        | zero =>
          cases h1
          exact J.ch 0 (h, k) q rfl h2
        | succ i => exact J.ch (i + 1) p q h1 h2
      rw [wstep_some e]
      split
      · rename_i hgb
        have hA : Anc gl (d ++ ((h, k) :: t).map (·.1)) g h := by
          rcases List.mem_append.mp ((I.mem g).mp hgb) with hd | ht
          · left
            exact List.Sublist.append (l₁ := [g]) (r₁ := [h]) (List.singleton_sublist.mpr hd) (List.singleton_sublist.mpr (by simp))
          · right
            exact trail_path ((h, k) :: t) g J.ch (List.sublist_append_right d _) ht h rfl
        refine ⟨hch, J.dn, fun p hp i y hi hy => ?_⟩
        show Anc gl (d ++ ((h, k) :: t).map (·.1)) y p.1
        rcases List.mem_cons.mp hp with rfl | hp
        · by_cases hik : i = k
          · subst hik
            have : some g = some y := e.symm.trans hy
            cases this
            exact hA
          · exact J.tr (h, k) (by simp) i y (by simp at hi; omega) hy
        · exact J.tr p (List.mem_cons_of_mem _ hp) i y hi hy
      · have sl : (d ++ ((h, k) :: t).map (·.1)).Sublist (d ++ ((g, 0) :: (h, k + 1) :: t).map (·.1)) := List.Sublist.append (List.Sublist.refl d) (List.sublist_cons_self g _)
        refine ⟨fun i p q h1 h2 => ?_, fun x hx y hy => (J.dn x hx y hy).mono sl, fun p hp i y hi hy => ?_⟩
        · cases i with
          | zero =>
            cases h1
            cases h2
            exact gm
          | succ i => exact hch i p q h1 h2
        · rcases List.mem_cons.mp hp with rfl | hp
          · simp at hi
          rcases List.mem_cons.mp hp with rfl | hp
          · by_cases hik : i = k
            · subst hik
              have : some g = some y := e.symm.trans hy
              cases this
              left
              exact List.Sublist.trans (List.Sublist.cons_cons g (List.singleton_sublist.mpr (by simp))) (List.sublist_append_right d _)
            · exact (J.tr (h, k) (by simp) i y (by simp at hi; omega) hy).mono sl
          · exact (J.tr p (List.mem_cons_of_mem _ hp) i y hi hy).mono sl
theorem wrun_anc {st : Nat} (hg : ∀ x < n, ∀ g ∈ gl x, g < n) : ∀ {m : Nat} {s : Wst}, WInvS gl n st s → WAnc gl s → WAnc gl (wrun gl m s)
  | 0, s, I, J => J
  | m + 1, s, I, J => by
    unfold wrun
    split
    · exact J
    · exact wrun_anc hg (I.step hg) (J.step I)
theorem idx_lt {a b : Nat} : ∀ {l : List Nat}, l.Nodup → List.Sublist [a, b] l → l.idxOf a < l.idxOf b
  | [], _, h => by cases h
  | c :: l, nd, h => by
    obtain ⟨n1, n2⟩ := List.nodup_cons.mp nd
    cases h with
    | cons _ h =>
      have ha : a ∈ l := h.subset (by simp)
      have hb : b ∈ l := h.subset (by simp)
      have e1 : (c == a) = false := beq_eq_false_iff_ne.mpr fun z => n1 (z ▸ ha)
      have e2 : (c == b) = false := beq_eq_false_iff_ne.mpr fun z => n1 (z ▸ hb)
      rw [List.idxOf_cons, List.idxOf_cons, e1, e2]
      have := idx_lt n2 h
      simpa using this
    | cons_cons _ h =>
      have hb : b ∈ l := h.subset (by simp)
      have e2 : (a == b) = false := beq_eq_false_iff_ne.mpr fun z => n1 (z ▸ hb)
      rw [List.idxOf_cons, List.idxOf_cons, e2]
      simp
/-- what is known of the numbers -/
structure OrdOk (gl : Nat → List Nat) (n st : Nat) (os : List Nat) : Prop where
  nd : os.Nodup
  rng : ∀ x ∈ os, x < n
  head : os.head? = some st
  closed : ∀ x ∈ os, ∀ g ∈ gl x, g ∈ os
  par : ∀ x ∈ os, x ≠ st → ∃ A B p, os = A ++ x :: B ∧ p ∈ A ∧ x ∈ gl p
  anc : ∀ x ∈ os, ∀ g ∈ gl x, List.Sublist [x, g] os ∨ Pthv gl (fun y => y = g ∨ List.Sublist [g, y] os) g x
theorem order_ok {st : Nat} (h0 : st < n) (hg : ∀ x < n, ∀ g ∈ gl x, g < n) : OrdOk gl n st (orderAt gl n st) := by
  obtain ⟨I, ht⟩ := wrun_inv hg (WInvS.start (gl := gl) h0) (wmu_start h0)
  have J := wrun_anc hg (m := wfuel gl n) (WInvS.start (gl := gl) h0) WAnc.start
  generalize hs : wrun gl (wfuel gl n) ⟨[st], [(st, 0)], []⟩ = s at I ht J
  have eo : s.done ++ s.trail.map (·.1) = s.done := by rw [ht]; simp
  have e : orderAt gl n st = s.done.reverse := by unfold orderAt; rw [hs]
  rw [e]
  have rv : ∀ a b : Nat, List.Sublist [a, b] s.done → List.Sublist [b, a] s.done.reverse := fun a b h => h.reverse
  refine ⟨?_, fun x hx => ?_, ?_, fun x hx g hgx => ?_, fun x hx hne => ?_, fun x hx g hgx => ?_⟩
  · have := I.nd
    rw [eo] at this
    exact (List.reverse_perm _).nodup_iff.mpr this
  · exact I.rng x ((I.mem x).mpr (by rw [eo]; exact List.mem_reverse.mp hx))
  · have := I.last
    rw [eo] at this
    rw [List.head?_reverse]
    exact this
  · have := I.dn x (List.mem_reverse.mp hx) g hgx
    rw [I.mem, eo] at this
    exact List.mem_reverse.mpr this
  · obtain ⟨A, B, p, e1, hp, hxp⟩ := I.par x (by rw [eo]; exact List.mem_reverse.mp hx) hne
    rw [eo] at e1
    refine ⟨B.reverse, A.reverse, p, ?_, List.mem_reverse.mpr hp, hxp⟩
    rw [e1]
    simp
  · have := J.dn x (List.mem_reverse.mp hx) g hgx
    rw [eo] at this
    rcases this with h | h
    · exact .inl (rv _ _ h)
    · exact .inr (h.mono fun y hy => hy.imp id (rv _ _))
/-! ### the walk by other numbers -/
def mapSt (p : Nat → Nat) (s : Wst) : Wst := ⟨s.begun.map p, s.trail.map fun q => (p q.1, q.2), s.done.map p⟩
structure Ren (gl gl' : Nat → List Nat) (S : Nat → Prop) (p : Nat → Nat) : Prop where
  inj : ∀ x y, S x → S y → p x = p y → x = y
  gls : ∀ x, S x → gl' (p x) = (gl x).map p
  clo : ∀ x, S x → ∀ g ∈ gl x, S g
structure InS (S : Nat → Prop) (s : Wst) : Prop where
  b : ∀ x ∈ s.begun, S x
  t : ∀ q ∈ s.trail, S q.1
theorem wstep_map {gl gl' : Nat → List Nat} {S : Nat → Prop} {p : Nat → Nat} (R : Ren gl gl' S p) {s : Wst} (I : InS S s) : wstep gl' (mapSt p s) = mapSt p (wstep gl s) ∧ InS S (wstep gl s) := by
  obtain ⟨b, t, d⟩ := s
  cases t with
  | nil => exact ⟨rfl, I⟩
  | cons q t =>
    obtain ⟨h, k⟩ := q
    have hS : S h := I.t (h, k) List.mem_cons_self
    have e1 : (gl' (p h))[k]? = ((gl h)[k]?).map p := by rw [R.gls h hS, List.getElem?_map]
    cases e : (gl h)[k]? with
    | none =>
      rw [e] at e1
      rw [wstep_none e]
      refine ⟨?_, I.b, fun q hq => I.t q (List.mem_cons_of_mem _ hq)⟩
      show wstep gl' ⟨b.map p, (p h, k) :: t.map (fun q => (p q.1, q.2)), d.map p⟩ = _
      rw [wstep_none e1]
      simp [mapSt]
    | some g =>
      rw [e] at e1
      have e1 : (gl' (p h))[k]? = some (p g) := e1
      have gS : S g := R.clo h hS g (List.mem_of_getElem? e)
      have em : p g ∈ b.map p ↔ g ∈ b := by
        constructor
        · intro z
          obtain ⟨y, hy, e2⟩ := List.mem_map.mp z
          rw [← R.inj y g (I.b y hy) gS e2]
          exact hy
        · exact fun z => List.mem_map.mpr ⟨g, z, rfl⟩
      rw [wstep_some e]
      have e3 : wstep gl' (mapSt p ⟨b, (h, k) :: t, d⟩) = if p g ∈ b.map p then ⟨b.map p, (p h, k + 1) :: t.map (fun q => (p q.1, q.2)), d.map p⟩ else ⟨b.map p ++ [p g], (p g, 0) :: (p h, k + 1) :: t.map (fun q => (p q.1, q.2)), d.map p⟩ := wstep_some e1
      rw [e3]
      by_cases hg : g ∈ b
      · rw [if_pos hg, if_pos (em.mpr hg)]
        refine ⟨rfl, I.b, fun q hq => ?_⟩
        rcases List.mem_cons.mp hq with rfl | hq
        · exact hS
        · exact I.t q (List.mem_cons_of_mem _ hq)
      · rw [if_neg hg, if_neg fun z => hg (em.mp z)]
        refine ⟨by simp [mapSt], fun x hx => ?_, fun q hq => ?_⟩
        · rcases List.mem_append.mp hx with hx | hx
          · exact I.b x hx
          · rw [List.mem_singleton.mp hx]; exact gS
        · rcases List.mem_cons.mp hq with rfl | hq
          · exact gS
          rcases List.mem_cons.mp hq with rfl | hq
          · exact hS
          · exact I.t q (List.mem_cons_of_mem _ hq)
theorem wrun_map {gl gl' : Nat → List Nat} {S : Nat → Prop} {p : Nat → Nat} (R : Ren gl gl' S p) : ∀ (m : Nat) {s : Wst}, InS S s → wrun gl' m (mapSt p s) = mapSt p (wrun gl m s)
  | 0, _, _ => rfl
  | m + 1, s, I => by
    unfold wrun
    by_cases h : s.trail = []
    · have h2 : (mapSt p s).trail = [] := by simp [mapSt, h]
      rw [if_pos h, if_pos h2]
    · have h2 : ¬(mapSt p s).trail = [] := by simp [mapSt, h]
      rw [if_neg h, if_neg h2]
      obtain ⟨e, I2⟩ := wstep_map R I
      rw [e]
      exact wrun_map R m I2
theorem wrun_end {gl : Nat → List Nat} : ∀ (m : Nat) {s : Wst}, s.trail = [] → wrun gl m s = s
  | 0, _, _ => rfl
  | m + 1, s, h => by unfold wrun; rw [if_pos h]
theorem wrun_add {gl : Nat → List Nat} : ∀ (m k : Nat) {s : Wst}, wrun gl (m + k) s = wrun gl k (wrun gl m s)
  | 0, k, s => by rw [Nat.zero_add]; rfl
  | m + 1, k, s => by
    have e : m + 1 + k = (m + k) + 1 := by omega
    rw [e]
    by_cases h : s.trail = []
    · rw [wrun_end _ h, wrun_end _ h, wrun_end _ h]
    · have e1 : wrun gl (m + k + 1) s = wrun gl (m + k) (wstep gl s) := by
        show (if s.trail = [] then s else wrun gl (m + k) (wstep gl s)) = _
        rw [if_neg h]
      have e2 : wrun gl (m + 1) s = wrun gl m (wstep gl s) := by
        show (if s.trail = [] then s else wrun gl m (wstep gl s)) = _
        rw [if_neg h]
      rw [e1, e2]
      exact wrun_add m k
theorem wrun_any {gl : Nat → List Nat} {m k : Nat} {s : Wst} (h1 : (wrun gl m s).trail = []) (h2 : (wrun gl k s).trail = []) : wrun gl m s = wrun gl k s := by
  have e1 : wrun gl (m + k) s = wrun gl m s := by rw [wrun_add, wrun_end k h1]
  have e2 : wrun gl (k + m) s = wrun gl k s := by rw [wrun_add, wrun_end m h2]
  rw [← e1, ← e2, Nat.add_comm]
theorem orderAt_map {gl gl' : Nat → List Nat} {S : Nat → Prop} {p : Nat → Nat} {n n' st : Nat} (R : Ren gl gl' S p) (hS : S st) (h0 : st < n) (hg : ∀ x < n, ∀ g ∈ gl x, g < n) (h0' : p st < n') (hg' : ∀ x < n', ∀ g ∈ gl' x, g < n') :
    orderAt gl' n' (p st) = (orderAt gl n st).map p := by
  have t1 := (wrun_inv hg (WInvS.start (gl := gl) h0) (wmu_start h0)).2
  have t2 := (wrun_inv hg' (WInvS.start (gl := gl') h0') (wmu_start h0')).2
  have I : InS S ⟨[st], [(st, 0)], []⟩ := ⟨fun x hx => by rw [List.mem_singleton.mp hx]; exact hS, fun q hq => by rw [List.mem_singleton.mp hq]; exact hS⟩
  have e := wrun_map R (wfuel gl n) I
  have e2 : mapSt p ⟨[st], [(st, 0)], []⟩ = ⟨[p st], [(p st, 0)], []⟩ := rfl
  rw [e2] at e
  have t3 : (wrun gl' (wfuel gl n) ⟨[p st], [(p st, 0)], []⟩).trail = [] := by rw [e]; simp [mapSt, t1]
  have e3 := wrun_any t2 t3
  unfold orderAt
  rw [e3, e, List.map_reverse]
  rfl
theorem map_idx {os : List Nat} (nd : os.Nodup) : (os.map fun x => os.idxOf x) = List.range os.length := by
  apply List.ext_getElem
  · simp
  · intro i h1 h2
    simp only [List.length_map] at h1
    rw [List.getElem_map, List.getElem_range]
    exact nd.idxOf_getElem i h1
end
/-! ### a graph numbered anew -/
def glOf (raw : List Nd) (x : Nat) : List Nat := match raw[x]? with
  | some nd => goals nd
  | none => []
def Nd.ren (f : Nat → Nat) : Nd → Nd
  | .sum x a s b to => .sum x a s b (f to)
  | .test a s b y n => .test a s b (f y) (f n)
  | .fin => .fin
  | .spin => .spin
theorem goals_ren (f : Nat → Nat) (x : Nd) : goals (x.ren f) = (goals x).map f := by cases x <;> rfl
theorem good_ren (f : Nat → Nat) (x : Nd) : (x.ren f).good = x.good := by cases x <;> rfl
def graphAt (raw : List Nd) (st : Nat) : List Nd :=
  let os := orderAt (glOf raw) raw.length st
  os.map fun o => ((raw[o]?).getD .fin).ren fun x => os.idxOf x
def graphOf (raw : List Nd) : List Nd := graphAt raw 0
/-- a graph: its ways lead within it; each node but the first has a way in from an earlier one -/
structure GOk (g : List Nd) : Prop where
  pos : 0 < g.length
  ok : ∀ x ∈ g, x.ok g.length
  good : ∀ x ∈ g, x.good = true
  par : ∀ (k : Nat), 0 < k → k < g.length → ∃ p x, p < k ∧ g[p]? = some x ∧ k ∈ goals x
  anc : ∀ k t : Nat, t ≤ k → t ∈ glOf g k → Pthv (glOf g) (fun y => t ≤ y) t k
  can : orderAt (glOf g) g.length 0 = List.range g.length
theorem nodup_get {l : List Nat} (nd : l.Nodup) {i j : Nat} (hi : i < l.length) (hj : j < l.length) (e : l[i] = l[j]) : i = j := by
  have h := List.pairwise_iff_getElem.mp nd
  rcases Nat.lt_trichotomy i j with q | q | q
  · exact absurd e (h i j hi hj q)
  · exact q
  · exact absurd e.symm (h j i hj hi q)
theorem nodup_len : ∀ {n : Nat} {os : List Nat}, os.Nodup → (∀ x ∈ os, x < n) → os.length ≤ n
  | 0, [], _, _ => Nat.le_refl _
  | 0, x :: os, _, h => absurd (h x List.mem_cons_self) (Nat.not_lt_zero _)
  | n + 1, os, nd, h => by
    have h1 := nodup_len (n := n) (os := os.filter fun x => !(x == n)) (nd.filter _) fun x hx => by
      obtain ⟨a, c⟩ := List.mem_filter.mp hx
      have := h x a
      have : x ≠ n := by simpa using c
      omega
    have h2 : os.length = (os.filter fun x => !(x == n)).length + os.count n := by
      rw [List.length_eq_countP_add_countP (fun x => !(x == n)) (l := os), List.countP_eq_length_filter]
      congr 1
      show _ = os.countP (· == n)
      congr 1
      funext x
      cases x == n <;> simp
    have h3 : os.count n ≤ 1 := List.nodup_iff_count.mp nd n
    omega
theorem graph_okAt {raw : List Nd} {st : Nat} (h0 : st < raw.length) (hr : ∀ x ∈ raw, x.ok raw.length) (hg : ∀ x ∈ raw, x.good = true) : GOk (graphAt raw st) ∧ (graphAt raw st).length ≤ raw.length := by
  have gl_lt : ∀ x < raw.length, ∀ g ∈ glOf raw x, g < raw.length := fun x hx g hgx => by
    unfold glOf at hgx
    rw [List.getElem?_eq_getElem hx] at hgx
    exact hr _ (List.getElem_mem hx) g hgx
  have O : OrdOk (glOf raw) raw.length st (orderAt (glOf raw) raw.length st) := order_ok h0 gl_lt
  generalize hos : orderAt (glOf raw) raw.length st = os at O
  have eg : graphAt raw st = os.map fun o => ((raw[o]?).getD .fin).ren fun x => os.idxOf x := by unfold graphAt; rw [hos]
  have lg : (graphAt raw st).length = os.length := by rw [eg, List.length_map]
  have glo : ∀ o ∈ os, ∃ nd, raw[o]? = some nd ∧ nd ∈ raw ∧ glOf raw o = goals nd := fun o ho => by
    have h := O.rng o ho
    refine ⟨raw[o], List.getElem?_eq_getElem h, List.getElem_mem h, ?_⟩
    unfold glOf
    rw [List.getElem?_eq_getElem h]
  have glg : ∀ y ∈ os, glOf (graphAt raw st) (os.idxOf y) = (glOf raw y).map fun x => os.idxOf x := fun y hy => by
    obtain ⟨nd, e1, _, e3⟩ := glo y hy
    have hi := List.idxOf_lt_length_iff.mpr hy
    rw [e3, ← goals_ren]
    unfold glOf
    rw [eg, List.getElem?_map, List.getElem?_eq_getElem hi, List.getElem_idxOf hi]
    show (match some (((raw[y]?).getD .fin).ren fun x => os.idxOf x) with | some nd => goals nd | none => []) = _
    rw [e1]
    rfl
  have sto : st ∈ os := List.mem_of_mem_head? (by rw [O.head]; rfl)
  have clo2 : ∀ x ∈ graphAt raw st, x.ok os.length := by
    intro x hx g hgx
    rw [eg] at hx
    obtain ⟨o, ho, rfl⟩ := List.mem_map.mp hx
    obtain ⟨nd, e1, _, e3⟩ := glo o ho
    rw [e1] at hgx
    have hgx : g ∈ goals (nd.ren fun x => os.idxOf x) := hgx
    rw [goals_ren] at hgx
    obtain ⟨y, hy, rfl⟩ := List.mem_map.mp hgx
    exact List.idxOf_lt_length_iff.mpr (O.closed o ho y (by rw [e3]; exact hy))
  refine ⟨⟨?_, ?_, ?_, ?_, ?_, ?_⟩, ?_⟩
  · rw [lg]
    cases os with
    | nil => have := O.head; simp at this
    | cons a os => simp
  · rw [lg]
    exact clo2
  · intro x hx
    rw [eg] at hx
    obtain ⟨o, ho, rfl⟩ := List.mem_map.mp hx
    obtain ⟨nd, e1, e2, _⟩ := glo o ho
    rw [e1]
    show (nd.ren _).good = true
    rw [good_ren]
    exact hg nd e2
  · intro k hk hk2
    rw [lg] at hk2
    have hx := List.getElem_mem hk2
    have h0' : os[k] ≠ st := fun z => by
      have hp : 0 < os.length := by omega
      have hh : os[0] = st := by
        have := O.head
        rw [List.head?_eq_getElem?, List.getElem?_eq_getElem hp] at this
        exact Option.some.inj this
      have := nodup_get O.nd hk2 hp (by rw [z, hh])
      omega
    obtain ⟨A, B, p, e, hp, hkp⟩ := O.par _ hx h0'
    obtain ⟨i, hi, rfl⟩ := List.mem_iff_getElem.mp hp
    have hAk : A.length = k := by
      have hAl : A.length < os.length := by rw [e]; simp
      have e2 : os[A.length] = os[k] := by
        have : os[A.length]? = some os[k] := by
          rw [show os[A.length]? = (A ++ os[k] :: B)[A.length]? from congrArg (fun l => l[A.length]?) e]
          simp
        rw [List.getElem?_eq_getElem hAl] at this
        exact Option.some.inj this
      exact nodup_get O.nd hAl hk2 e2
    have hil : i < os.length := by omega
    have ei : os[i] = A[i] := by
      have : os[i]? = some A[i] := by
        rw [show os[i]? = (A ++ os[k] :: B)[i]? from congrArg (fun l => l[i]?) e, List.getElem?_append_left hi]
        exact List.getElem?_eq_getElem hi
      rw [List.getElem?_eq_getElem hil] at this
      exact Option.some.inj this
    obtain ⟨nd, e1, _, e3⟩ := glo A[i] (by rw [← ei]; exact List.getElem_mem hil)
    refine ⟨i, nd.ren fun x => os.idxOf x, by omega, ?_, ?_⟩
    · rw [eg, List.getElem?_map, List.getElem?_eq_getElem hil, ei]
      show some (((raw[A[i]]?).getD .fin).ren _) = _
      rw [e1]
      rfl
    · rw [goals_ren]
      refine List.mem_map.mpr ⟨os[k], by rw [← e3]; exact hkp, ?_⟩
      exact O.nd.idxOf_getElem k hk2
  · intro k t hle ht
    by_cases hk : k < os.length
    · have hx := List.getElem_mem hk
      have ek : os.idxOf os[k] = k := O.nd.idxOf_getElem k hk
      have hg := glg _ hx
      rw [ek] at hg
      rw [hg] at ht
      obtain ⟨g, hgx, rfl⟩ := List.mem_map.mp ht
      rcases O.anc _ hx g hgx with h | h
      · have := idx_lt O.nd h
        omega
      · have go : ∀ z, Pthv (glOf raw) (fun y => y = g ∨ List.Sublist [g, y] os) g z → z ∈ os ∧ Pthv (glOf (graphAt raw st)) (fun y => os.idxOf g ≤ y) (os.idxOf g) (os.idxOf z) := by
          intro z hz
          induction hz with
          | self _ => exact ⟨O.closed _ hx g hgx, .self (Nat.le_refl _)⟩
          | @step a c _ m sc ih =>
            refine ⟨O.closed _ ih.1 c m, .step ih.2 (by rw [glg _ ih.1]; exact List.mem_map.mpr ⟨c, m, rfl⟩) ?_⟩
            rcases sc with rfl | sc
            · exact Nat.le_refl _
            · exact Nat.le_of_lt (idx_lt O.nd sc)
        have := (go _ h).2
        rw [ek] at this
        exact this
    · unfold glOf at ht
      rw [List.getElem?_eq_none (by rw [lg]; omega)] at ht
      cases ht
  · have R : Ren (glOf raw) (glOf (graphAt raw st)) (· ∈ os) (fun x => os.idxOf x) := ⟨fun x y hx hy e => by
      have h1 := List.getElem_idxOf (List.idxOf_lt_length_iff.mpr hx)
      have h2 := List.getElem_idxOf (List.idxOf_lt_length_iff.mpr hy)
      have e : os.idxOf x = os.idxOf y := e
      rw [← h1, ← h2]
      congr 1, glg, O.closed⟩
    have i0 : os.idxOf st = 0 := by
      have hp : 0 < os.length := by cases os with | nil => cases sto | cons a os => simp
      have hh : os[0] = st := by
        have := O.head
        rw [List.head?_eq_getElem?, List.getElem?_eq_getElem hp] at this
        exact Option.some.inj this
      have := O.nd.idxOf_getElem 0 hp
      rw [hh] at this
      exact this
    have h0' : os.idxOf st < os.length := List.idxOf_lt_length_iff.mpr sto
    have := orderAt_map (n' := os.length) R sto h0 gl_lt h0' fun x hx g hgx => by
      unfold glOf at hgx
      rw [List.getElem?_eq_getElem (by rw [lg]; exact hx)] at hgx
      exact clo2 _ (List.getElem_mem _) g hgx
    rw [hos, map_idx O.nd] at this
    rw [lg, ← this]
    show _ = orderAt (glOf (graphAt raw st)) os.length (os.idxOf st)
    rw [i0]
  · rw [lg]
    exact nodup_len O.nd O.rng
theorem graph_ok {raw : List Nd} (h0 : 0 < raw.length) (hr : ∀ x ∈ raw, x.ok raw.length) (hg : ∀ x ∈ raw, x.good = true) : GOk (graphOf raw) ∧ (graphOf raw).length ≤ raw.length := graph_okAt h0 hr hg
end VL
/-! VL27: small lemmas for readings. -/
namespace VL
open PySem PySem.Spec PyProof.Rows L2 VL
theorem script_fz (ns : List Int) : isFz (scriptD ns) = true := by show (!false && isFzL (ns.map D.int)) = true; rw [isFzL_all]; simp [isFz]
theorem script_len {ns : List Int} {Q : D → Prop} : sLen [scriptD ns] Q ↔ Q (.int ns.length) := by unfold scriptD; rw [e_lenL, List.length_map]
theorem ints_inj {a b : List Int} (h : a.map D.int = b.map D.int) : a = b := (List.map_inj_right (fun _ _ h => D.int.inj h)).mp h
def natsD (xs : List Nat) : List D := xs.map fun k : Nat => D.int (k : Int)
theorem natsD_fz (xs : List Nat) : isFzL (natsD xs) = true := by unfold natsD; rw [isFzL_all]; simp [isFz]
theorem natsD_frz (xs : List Nat) : frzL (natsD xs) = natsD xs := by
  rw [frzL_map]
  unfold natsD
  rw [List.map_map]
  rfl
theorem natsD_len (xs : List Nat) : (natsD xs).length = xs.length := by unfold natsD; rw [List.length_map]
theorem natsD_inj {a b : List Nat} (h : natsD a = natsD b) : a = b := (List.map_inj_right (fun x y h => by have := D.int.inj h; omega)).mp h
theorem nd_inj : ∀ {x y : Nd}, ndD x = ndD y → x = y := by
  intro x y h
  have h := D.tup.inj h
  have op : ∀ {a b : Opd}, opD a = opD b → a = b := fun {a b} h => by cases a <;> cases b <;> simp only [opD, D.int.injEq, D.str.injEq, reduceCtorEq] at h <;> rw [h]
  cases x <;> cases y <;> simp only [ndL, List.cons.injEq, D.str.injEq, D.int.injEq, reduceCtorEq, and_true, List.cons.injEq, Nat.reduceEqDiff, false_and, and_false, List.nil_eq, List.cons_ne_nil, true_and] at h
  · obtain ⟨h1, h2, h3, h4, h5⟩ := h
    rw [h1, op h2, h3, op h4, show _ = _ from Int.ofNat.inj h5]
  · obtain ⟨h2, h3, h4, h5, h6⟩ := h
    rw [op h2, h3, op h4, show _ = _ from Int.ofNat.inj h5, show _ = _ from Int.ofNat.inj h6]
  · rfl
  · rfl
theorem ix_ex {xs : List D} {n : Nat} {z : Int} {P : D → Prop} (h0 : 0 ≤ z) (h1 : z < n) (hP : ∀ d ∈ xs, isFz d = true ∧ P d) (hn : xs.length = n := by rfl) : ∃ d, ((ixN n z).bind fun j => xs[j]?) = some d ∧ isFz d = true ∧ P d := by
  rw [ixN_pos h0 h1]
  have hz : z.toNat < xs.length := by omega
  exact ⟨xs[z.toNat], List.getElem?_eq_getElem hz, hP _ (List.getElem_mem hz)⟩
theorem opd_of2 {s : D} {i : Int} (h : ∃ t : Cs, Cs.good t = true ∧ s = .str t) : ∀ d ∈ [s, .int i], ∃ a : Opd, a.good = true ∧ d = opD a := by
  obtain ⟨t, ht, rfl⟩ := h
  intro d hd
  simp at hd
  rcases hd with rfl | rfl
  · exact ⟨.inr t, ht, rfl⟩
  · exact ⟨.inl i, rfl, rfl⟩
theorem name_of4 : ∀ d ∈ [D.str [120], D.str [121], D.str [122, 49], D.str [122]], ∃ t : Cs, Cs.good t = true ∧ d = .str t := by
  intro d hd
  simp at hd
  rcases hd with rfl | rfl | rfl | rfl
  · exact ⟨_, rfl, rfl⟩
  · exact ⟨_, rfl, rfl⟩
  · exact ⟨_, rfl, rfl⟩
  · exact ⟨_, rfl, rfl⟩
theorem near4 {near to : Nat} {m : Nat} (h1 : near < m) (h2 : to < m) : ∀ d ∈ [D.int (near : Int), D.int (near : Int), D.int (near : Int), D.int (to : Int)], ∃ t : Nat, t < m ∧ d = .int (t : Int) := by
  intro d hd
  simp at hd
  rcases hd with rfl | rfl
  · exact ⟨_, h1, rfl⟩
  · exact ⟨_, h2, rfl⟩
theorem big_mul {i j : Int} (h : Builtin.Int.intBits i ≤ 1048600) (h2 : j.natAbs < 2 ^ 250) : CMl i j := by
  have h3 := PyProof.Rows.intBits_le h2
  exact .inr (show (Builtin.Int.intBits i : Int) + (Builtin.Int.intBits j : Int) ≤ 134217728 by omega)
theorem bits_add {a b : Int} {m : Nat} (ha : Builtin.Int.intBits a ≤ m) (hb : b.natAbs < 4294967296) (hm : 32 ≤ m) : Builtin.Int.intBits (a + b) ≤ m + 1 := by
  have h1 : Builtin.Int.intBits b ≤ m := Nat.le_trans (PyProof.Rows.intBits_le (k := 32) hb) hm
  have := intBits_add_le ha h1
  omega
theorem tyOk_L {m : Bool} {xs : List D} : tyOk "list" (.lst m xs) = true := rfl
theorem e_pop {ds : List D} {y : D} {P : List D → D → Prop} : (∃ ds' res, muPop (ds ++ [y]) [] = some (ds', res) ∧ P ds' res) ↔ P ds y := by
  have h : muPop (ds ++ [y]) [] = some (ds, y) := by
    show (((ds ++ [y])[(ds ++ [y]).length - 1]?).map fun z => ((ds ++ [y]).dropLast, z)) = _
    simp
  rw [h]
  exact ⟨fun ⟨_, _, e, p⟩ => by cases e; exact p, fun p => ⟨_, _, rfl, p⟩⟩
theorem names1 {i : Nat} {a : D} {ε : Ep} {Q : Ep → Prop} : vNames [i] (.tup [a]) ε Q ↔ i < ε.length ∧ Q (ε.set i (some a)) :=
  ⟨fun ⟨_, e, _, h, q⟩ => by cases e; exact ⟨h i (by simp), q⟩, fun ⟨h, q⟩ => ⟨_, rfl, rfl, fun j hj => by simp at hj; subst hj; exact h, q⟩⟩
theorem names2 {i j : Nat} {a b : D} {ε : Ep} {Q : Ep → Prop} : vNames [i, j] (.tup [a, b]) ε Q ↔ i < ε.length ∧ j < ε.length ∧ Q ((ε.set i (some a)).set j (some b)) :=
  ⟨fun ⟨_, e, _, h, q⟩ => by cases e; exact ⟨h i (by simp), h j (by simp), q⟩, fun ⟨h, h2, q⟩ => ⟨_, rfl, rfl, fun j hj => by simp at hj; rcases hj with rfl | rfl <;> assumption, q⟩⟩
theorem names3 {i j k : Nat} {a b c : D} {ε : Ep} {Q : Ep → Prop} : vNames [i, j, k] (.tup [a, b, c]) ε Q ↔ i < ε.length ∧ j < ε.length ∧ k < ε.length ∧ Q (((ε.set i (some a)).set j (some b)).set k (some c)) :=
  ⟨fun ⟨_, e, _, h, q⟩ => by cases e; exact ⟨h i (by simp), h j (by simp), h k (by simp), q⟩, fun ⟨h, h2, h3, q⟩ => ⟨_, rfl, rfl, fun j hj => by simp at hj; rcases hj with rfl | rfl | rfl <;> assumption, q⟩⟩
theorem ix_at {xs : List D} {k : Nat} {d : D} (h : xs[k]? = some d) (z : isFz d = true) {n : Nat} (hn : xs.length = n) {P : D → Prop} : (∃ d, ((ixN n (k : Int)).bind fun j => xs[j]?) = some d ∧ isFz d = true ∧ P d) ↔ P d := by
  have hk := (List.getElem?_eq_some_iff.mp h).1
  rw [ixN_nat (by omega)]
  show (∃ d, xs[k]? = some d ∧ isFz d = true ∧ P d) ↔ P d
  rw [h]
  exact ⟨fun ⟨_, e, _, p⟩ => by cases e; exact p, fun p => ⟨_, rfl, z, p⟩⟩
theorem ix_nds {raw : List Nd} {k : Nat} {x : Nd} (h : raw[k]? = some x) {P : D → Prop} : (∃ d, ((ixN raw.length (k : Int)).bind fun j => (raw.map ndD)[j]?) = some d ∧ isFz d = true ∧ P d) ↔ P (ndD x) :=
  ix_at (by rw [List.getElem?_map, h]; rfl) (isFz_nd x) (by simp)
theorem ix_nats {xs : List Nat} {k g : Nat} (h : xs[k]? = some g) {P : D → Prop} : (∃ d, ((ixN xs.length (k : Int)).bind fun j => (natsD xs)[j]?) = some d ∧ isFz d = true ∧ P d) ↔ P (.int (g : Int)) :=
  ix_at (by unfold natsD; rw [List.getElem?_map, h]; rfl) rfl (natsD_len xs)
theorem any_nats {b : List Nat} {g : Nat} : ((natsD b).any fun y => deq y (.int (g : Int))) = decide (g ∈ b) := by
  unfold natsD
  rw [List.any_map, Bool.eq_iff_iff, List.any_eq_true, decide_eq_true_iff]
  constructor
  · rintro ⟨x, hx, h⟩
    have h : deq (.int (x : Int)) (.int (g : Int)) = true := h
    rw [deq_i, decide_eq_true_iff] at h
    have : x = g := by omega
    rw [← this]; exact hx
  · intro h
    exact ⟨g, h, by show deq (.int (g : Int)) (.int (g : Int)) = true; rw [deq_i]; simp⟩
theorem natsD_flat (b : List Nat) : (natsD b).all flatD = true := by unfold natsD; rw [List.all_map]; simp [flatD]
theorem mem_nats {m : Bool} {b : List Nat} {g : Nat} : memD (.int (g : Int)) (.lst m (natsD b)) = some (decide (g ∈ b)) := by
  show (if (flatD (.int (g : Int)) && (natsD b).all flatD) = true then some ((natsD b).any fun y => deq y (.int (g : Int))) else _) = _
  rw [if_pos (by rw [natsD_flat]; rfl), any_nats]
theorem vmem_nats {m : Bool} {b : List Nat} {g : Nat} {P : Bool → Prop} : (∃ r, memD (.int (g : Int)) (.lst m (natsD b)) = some r ∧ P r) ↔ P (decide (g ∈ b)) := by
  rw [mem_nats]
  exact ⟨fun ⟨_, e, p⟩ => by cases e; exact p, fun p => ⟨_, rfl, p⟩⟩
theorem natsD_app (a : List Nat) (k : Nat) : natsD a ++ [.int (k : Int)] = natsD (a ++ [k]) := by unfold natsD; simp
theorem natsD_rev (a : List Nat) : (natsD a).reverse = natsD a.reverse := by unfold natsD; rw [List.map_reverse]
theorem cutL_take {α : Type} (xs : List α) (k : Nat) : cutL xs none (some (no_index (OfNat.ofNat k))) = xs.take k := by
  show (xs.drop 0).take (HT.sIx xs.length xs.length (some ((k : Nat) : Int)) - 0) = _
  rw [HT.sIx_nat, List.drop_zero, Nat.sub_zero]
  by_cases h : k ≤ xs.length
  · rw [Nat.min_eq_left h]
  · rw [Nat.min_eq_right (by omega), List.take_length, List.take_of_length_le (by omega)]
theorem cutL_drop {α : Type} (xs : List α) (k : Nat) : cutL xs (some (no_index (OfNat.ofNat k))) none = xs.drop k := by
  show (xs.drop (HT.sIx xs.length 0 (some ((k : Nat) : Int)))).take (xs.length - HT.sIx xs.length 0 (some ((k : Nat) : Int))) = _
  rw [HT.sIx_nat]
  by_cases h : k ≤ xs.length
  · rw [Nat.min_eq_left h, List.take_of_length_le (by simp)]
  · rw [Nat.min_eq_right (by omega), List.drop_length, List.drop_of_length_le (by omega)]
    simp
theorem frz_op (a : Opd) : frz (opD a) = opD a := by cases a <;> rfl
section
variable {own : List Nat} {g : VTG} {tt : VTT} {te te' : VTE} {d : D} {ds acc : List D} {ε : Ep} {Q : List D → Ep → Prop}
theorem e_lcNil : vLcL own g tt te [] acc ε Q ↔ Q acc ε := Iff.rfl
theorem e_lcU (h : te = te') : vLcL own g tt te (d :: ds) acc ε Q ↔ g d ε fun ε1 => tt noX ε1 fun c ε2 => if c = true then te' noX ε2 fun y ε3 => acc.length < 1000000 ∧ vLcL own g tt te ds (acc ++ [y]) (forgetE own ε3) Q else vLcL own g tt te ds acc (forgetE own ε2) Q := by subst h; exact Iff.rfl
theorem e_lcU2 {tt' : VTT} (h : te = te') (h2 : tt = tt') : vLcL own g tt te (d :: ds) acc ε Q ↔ g d ε fun ε1 => tt' noX ε1 fun c ε2 => if c = true then te' noX ε2 fun y ε3 => acc.length < 1000000 ∧ vLcL own g tt te ds (acc ++ [y]) (forgetE own ε3) Q else vLcL own g tt te ds acc (forgetE own ε2) Q := by subst h; subst h2; exact Iff.rfl
theorem rng0 (n : Nat) : rng 0 n = (List.range n).map fun k : Nat => D.int (k : Int) := by
  unfold rng
  exact List.map_congr_left fun k _ => by rw [Int.zero_add]
theorem rngN (n : Nat) : rng 0 n = natsD (List.range n) := rng0 n
end
mutual
/-- plain data that stands still, nested to depth n at most, of short lists -/
def plD : Nat → D → Bool
  | _, .non => true
  | _, .bl _ => true
  | _, .int _ => true
  | _, .str _ => true
  | n + 1, .tup xs => decide (xs.length < 1000000) && plDL n xs
  | n + 1, .lst m xs => !m && (decide (xs.length < 1000000) && plDL n xs)
  | _, _ => false
def plDL : Nat → List D → Bool
  | _, [] => true
  | n, d :: ds => plD n d && plDL n ds
end
theorem plDL_all : ∀ (n : Nat) (ds : List D), plDL n ds = ds.all (plD n)
  | _, [] => by rw [plDL]; rfl
  | n, d :: ds => by rw [plDL, plDL_all n ds, List.all_cons]
theorem plD_fz : ∀ (n : Nat) (d : D), plD n d = true → isFz d = true := by
  intro n
  induction n with
  | zero => intro d h; cases d <;> first | rfl | (simp [plD] at h; done)
  | succ n ih =>
    have l : ∀ xs, plDL n xs = true → isFzL xs = true := fun xs h => by
      rw [plDL_all] at h
      rw [isFzL_all]
      exact List.all_eq_true.mpr fun x hx => ih x (List.all_eq_true.mp h x hx)
    intro d h
    cases d with
    | tup xs => exact l xs (by simp [plD] at h; exact h.2)
    | lst m xs =>
      cases m with
      | true => simp [plD] at h
      | false => show (!false && isFzL xs) = true; rw [l xs (by simp [plD] at h; exact h.2)]; rfl
    | _ => first | rfl | (simp [plD] at h; done)
theorem plDL_fz {n : Nat} {xs : List D} (h : plDL n xs = true) : isFzL xs = true := by
  rw [plDL_all] at h
  rw [isFzL_all]
  exact List.all_eq_true.mpr fun x hx => plD_fz n x (List.all_eq_true.mp h x hx)
theorem pl_op (n : Nat) (a : Opd) : plD n (opD a) = true := by cases a <;> cases n <;> rfl
theorem pl_nats (n : Nat) (xs : List Nat) : plDL n (natsD xs) = true := by
  rw [plDL_all]
  unfold natsD
  rw [List.all_map]
  exact List.all_eq_true.mpr fun x _ => by cases n <;> rfl
theorem pl_nd (n : Nat) (x : Nd) : plD (n + 1) (ndD x) = true := by
  show (decide ((ndL x).length < 1000000) && plDL n (ndL x)) = true
  have : plDL n (ndL x) = true := by
    rw [plDL_all]
    cases x <;> simp only [ndL, List.all_cons, List.all_nil, Bool.and_true, Bool.and_eq_true, pl_op, and_true, true_and]
    · refine ⟨?_, ?_, ?_, ?_⟩ <;> cases n <;> rfl
    · refine ⟨?_, ?_, ?_, ?_⟩ <;> cases n <;> rfl
    · cases n <;> rfl
    · cases n <;> rfl
  rw [this]
  cases x <;> rfl
theorem pl_nds (n : Nat) {g : List Nd} (h : g.length < 1000000) : plD (n + 2) (.lst false (g.map ndD)) = true := by
  show (!false && (decide ((g.map ndD).length < 1000000) && plDL (n + 1) (g.map ndD))) = true
  rw [plDL_all, List.all_map, List.length_map]
  simp only [h, decide_true, Bool.true_and, Bool.not_false]
  exact List.all_eq_true.mpr fun x _ => pl_nd n x
end VL
/-! VL28: places by one step; a list of lists of numbers. -/
namespace VL
open PySem PySem.Spec PyProof.Rows L2 VL
theorem getP_ix1 {ds : List D} {j : Nat} {d : D} (h : ds[j]? = some d) : getP (.lst true ds) [.ix j] = some d := by
  show (match ds[j]? with | some d => getP d [] | none => none) = _
  rw [h]
  exact getP_nil d
theorem setP_ix1 {ds : List D} {j : Nat} {d e : D} (h : ds[j]? = some d) : setP (.lst true ds) [.ix j] e = .lst true (ds.set j e) := by
  show (match ds[j]? with | some d => D.lst true (ds.set j (setP d [] e)) | none => .lst true ds) = _
  rw [h]
  show D.lst true (ds.set j (setP d [] e)) = _
  rw [setP_nilE]
def rowsD (n : Nat) (r : Nat → List Nat) : List D := (List.range n).map fun t => .lst true (natsD (r t))
def rowsF (n : Nat) (r : Nat → List Nat) : List D := (List.range n).map fun t => .lst false (natsD (r t))
def addRow (r : Nat → List Nat) (t k : Nat) : Nat → List Nat := fun s => if s = t then r s ++ [k] else r s
section
variable {n t k : Nat} {r : Nat → List Nat}
theorem rowsD_len : (rowsD n r).length = n := by simp [rowsD]
theorem rowsF_len : (rowsF n r).length = n := by simp [rowsF]
theorem rowsD_get (h : t < n) : (rowsD n r)[t]? = some (.lst true (natsD (r t))) := by simp [rowsD, h]
theorem rowsF_get (h : t < n) : (rowsF n r)[t]? = some (.lst false (natsD (r t))) := by simp [rowsF, h]
theorem rowsD_set (h : t < n) : (rowsD n r).set t (.lst true (natsD (r t ++ [k]))) = rowsD n (addRow r t k) := by
  apply List.ext_getElem?
  intro i
  rw [List.getElem?_set]
  by_cases e : t = i
  · subst e
    rw [if_pos rfl, if_pos (by rw [rowsD_len]; exact h), rowsD_get h]
    simp [addRow]
  · rw [if_neg e]
    by_cases hi : i < n
    · rw [rowsD_get hi, rowsD_get hi]
      unfold addRow
      rw [if_neg (fun z => e z.symm)]
    · rw [List.getElem?_eq_none (by rw [rowsD_len]; omega), List.getElem?_eq_none (by rw [rowsD_len]; omega)]
theorem frz_rows : frzL (rowsD n r) = rowsF n r := by
  rw [frzL_map]
  unfold rowsD rowsF
  rw [List.map_map]
  exact List.map_congr_left fun t _ => by show D.lst false (frzL (natsD (r t))) = _; rw [natsD_frz]
theorem rowsF_fz : isFzL (rowsF n r) = true := by rw [isFzL_all]; simp [rowsF, isFz, natsD_fz]
theorem rowsF_congr {r' : Nat → List Nat} (h : ∀ t < n, r t = r' t) : rowsF n r = rowsF n r' := by
  unfold rowsF
  exact List.map_congr_left fun t ht => by rw [h t (List.mem_range.mp ht)]
theorem pl_rows {m : Nat} (hn : n < 1000000) (hr : ∀ t < n, (r t).length < 1000000) : plD (m + 2) (.lst false (rowsF n r)) = true := by
  show (!false && (decide ((rowsF n r).length < 1000000) && plDL (m + 1) (rowsF n r))) = true
  rw [rowsF_len, plDL_all]
  simp only [hn, decide_true, Bool.true_and, Bool.not_false]
  apply List.all_eq_true.mpr
  intro x hx
  obtain ⟨t, ht, rfl⟩ := List.mem_map.mp hx
  show (!false && (decide ((natsD (r t)).length < 1000000) && plDL m (natsD (r t)))) = true
  rw [natsD_len, pl_nats]
  simp only [hr t (List.mem_range.mp ht), decide_true, Bool.true_and, Bool.not_false]
end
/-- from whom ways lead to t, each as often as ways of it do -/
def comeRow (f : Nat → List Nat) (n t : Nat) : List Nat := (List.range n).flatMap fun k => List.replicate ((f k).count t) k
theorem comeRow_succ {f : Nat → List Nat} {n t : Nat} : comeRow f (n + 1) t = comeRow f n t ++ List.replicate ((f n).count t) n := by
  unfold comeRow
  rw [List.range_succ, List.flatMap_append]
  simp
theorem comeRow_congr {f g : Nat → List Nat} {n t : Nat} (h : ∀ k < n, (f k).count t = (g k).count t) : comeRow f n t = comeRow g n t := by
  induction n with
  | zero => rfl
  | succ n ih => rw [comeRow_succ, comeRow_succ, ih fun k hk => h k (by omega), h n (by omega)]
theorem comeRow_len {f : Nat → List Nat} {n t m : Nat} (h : ∀ k < n, (f k).length ≤ m) : (comeRow f n t).length ≤ n * m := by
  induction n with
  | zero => simp [comeRow]
  | succ n ih =>
    rw [comeRow_succ, List.length_append, List.length_replicate]
    have h1 := ih fun k hk => h k (by omega)
    have h2 := h n (by omega)
    have h3 : (f n).count t ≤ (f n).length := List.count_le_length
    rw [Nat.succ_mul]
    omega
theorem goals_len (x : Nd) : (goals x).length ≤ 2 := by cases x <;> simp [goals]
theorem seqD_l {m : Bool} {xs : List D} : VL.seqD (.lst m xs) = some xs := rfl
theorem seqD_t {xs : List D} : VL.seqD (.tup xs) = some xs := rfl
theorem listD_l {m : Bool} {xs : List D} : listD (.lst m xs) = some xs := rfl
theorem listD_t {xs : List D} : listD (.tup xs) = some xs := rfl
theorem deq_ll {m n : Bool} {xs ys : List D} : deq (.lst m xs) (.lst n ys) = deqL xs ys := rfl
theorem nds_eq {g : List Nd} (h : ∀ x ∈ g, x.good = true) : deqL (g.map ndD) (g.map ndD) = true := deqL_self (okDL_nds h (n := 63) (by decide))
theorem nds_eqOk {g : List Nd} (h : ∀ x ∈ g, x.good = true) (m n : Bool) : eqOk (.lst m (g.map ndD)) (.lst n (g.map ndD)) := .inr ⟨okD_lnds h m, okD_lnds h n⟩
theorem frz_rowsF {n : Nat} {r : Nat → List Nat} : frzL (rowsF n r) = rowsF n r := frzL_id rowsF_fz
theorem e_forBU {i j : Nat} {b b' : VTS} {d : D} {ds acc : List D} {N : VEnds} {ε : Ep} (h : b = b') : vForBL i j b (d :: ds) acc N ε ↔ j < ε.length ∧ b' { nx := fun ε' => ∃ d', ε'[j]? = some (some d') ∧ vForBL i j b ds (acc ++ [d']) N (ε'.set j none), rt := fun _ _ => False, ct := fun ε' => ∃ d', ε'[j]? = some (some d') ∧ vForBL i j b ds (acc ++ [d']) N (ε'.set j none), rx := fun _ _ _ => False } (ε.set j (some d)) := by subst h; exact Iff.rfl
theorem e_forBN {i j : Nat} {b : VTS} {acc : List D} {N : VEnds} {ε : Ep} : vForBL i j b [] acc N ε ↔ N.nx (ε.set i (some (.lst true acc))) := Iff.rfl
theorem rowsD_map {n : Nat} {r : Nat → List Nat} : rowsD n r = ((List.range n).map r).map fun x => .lst true (natsD x) := by
  unfold rowsD
  rw [List.map_map]
  rfl
theorem frzL_len {xs : List D} : (frzL xs).length = xs.length := by rw [frzL_map, List.length_map]
theorem ite_no {c : Prop} {i : Decidable c} {a b : Prop} (h : ¬c) (q : b) : @ite Prop c i a b := by rw [if_neg h]; exact q
theorem ite_yes {c : Prop} {i : Decidable c} {a b : Prop} (h : c) (q : a) : @ite Prop c i a b := by rw [if_pos h]; exact q
theorem nats_ok (m : Bool) (xs : List Nat) : okD 64 (.lst m (natsD xs)) = true := by
  show okDL 63 (natsD xs) = true
  rw [okDL_all]
  unfold natsD
  rw [List.all_map]
  exact List.all_eq_true.mpr fun x _ => rfl
theorem eqOk_nn {m n : Bool} {xs ys : List Nat} : eqOk (.lst m (natsD xs)) (.lst n (natsD ys)) ↔ True := ⟨fun _ => trivial, fun _ => .inr ⟨nats_ok m xs, nats_ok n ys⟩⟩
theorem eqOk_n0 {m n : Bool} {xs : List Nat} : eqOk (.lst m (natsD xs)) (.lst n []) ↔ True := ⟨fun _ => trivial, fun _ => .inr ⟨nats_ok m xs, rfl⟩⟩
theorem deqL_n0 {xs : List Nat} : deqL (natsD xs) [] = xs.isEmpty := by cases xs <;> rfl
theorem deqL_nn : ∀ {xs ys : List Nat}, deqL (natsD xs) (natsD ys) = decide (xs = ys)
  | [], [] => rfl
  | [], y :: ys => rfl
  | x :: xs, [] => rfl
  | x :: xs, y :: ys => by
    show (deq (.int (x : Int)) (.int (y : Int)) && deqL (natsD xs) (natsD ys)) = _
    rw [deq_i, deqL_nn, Bool.eq_iff_iff, Bool.and_eq_true, decide_eq_true_iff, decide_eq_true_iff, decide_eq_true_iff, List.cons.injEq]
    constructor
    · rintro ⟨h1, h2⟩; exact ⟨by omega, h2⟩
    · rintro ⟨rfl, rfl⟩; exact ⟨rfl, rfl⟩
end VL
/-! VL29: rows laid out of a graph. -/
namespace VL
open PySem PySem.Spec PyProof.Rows L2 VL
abbrev cJump : Cs := [106, 117, 109, 112]
abbrev cDeed : Cs := [100, 101, 101, 100]
def toff : Nd → Nat → Bool
  | .sum _ _ _ _ to, k => decide (to ≠ k + 1)
  | .test _ _ _ _ n, k => decide (n ≠ k + 1)
  | _, _ => false
/-- a row's mark: the node whose deed it is, or the node to which it jumps -/
abbrev Mk := Nat × Bool
def mkAt (g : List Nd) (k : Nat) : List Mk := match g[k]? with
  | some x => (k, false) :: (if toff x k then ((goals x).take 1).map fun t => (t, true) else [])
  | none => []
def marksTo (g : List Nd) (k : Nat) : List Mk := (List.range k).flatMap (mkAt g)
def firstOf (g : List Nd) (k : Nat) : Nat := (marksTo g k).length
theorem marksTo_succ (g : List Nd) (k : Nat) : marksTo g (k + 1) = marksTo g k ++ mkAt g k := by
  unfold marksTo
  rw [List.range_succ, List.flatMap_append]
  simp
def opRow (a : Opd) : D := opD a
def rowOfMark (g : List Nd) (at_ : Nat) : Mk → D
  | (k, true) => .tup [.int (at_ : Int), .str cJump, .int (firstOf g k : Nat)]
  | (k, false) => match g[k]? with
    | some (.sum x a s b _) => .tup [.int (at_ : Int), .str cSum, .str x, opD a, .str s, opD b]
    | some (.test a s b y _) => .tup [.int (at_ : Int), .str cTest, opD a, .str s, opD b, .int (firstOf g y : Nat)]
    | some .fin => .tup [.int (at_ : Int), .str cEnd]
    | some .spin => .tup [.int (at_ : Int), .str cJump, .int (at_ : Int)]
    | none => .non
def rowsMk (g : List Nd) (ms : List Mk) : List D := ms.zipIdx.map fun p => rowOfMark g p.2 p.1
def rowsOut (g : List Nd) : List D := rowsMk g (marksTo g g.length)
theorem rowsMk_app (g : List Nd) (ms ns : List Mk) : rowsMk g (ms ++ ns) = rowsMk g ms ++ (ns.zipIdx ms.length).map fun p => rowOfMark g p.2 p.1 := by
  unfold rowsMk
  rw [List.zipIdx_append, List.map_append]
  simp
theorem rowsMk_len (g : List Nd) (ms : List Mk) : (rowsMk g ms).length = ms.length := by simp [rowsMk]
theorem mkAt_len (g : List Nd) (k : Nat) : (mkAt g k).length ≤ 2 := by
  unfold mkAt
  cases g[k]? with
  | none => simp
  | some x =>
    show ((k, false) :: (if toff x k then ((goals x).take 1).map fun t => (t, true) else [])).length ≤ 2
    split <;> simp
    omega
theorem firstOf_le (g : List Nd) (k : Nat) : firstOf g k ≤ k * 2 := by
  induction k with
  | zero => simp [firstOf, marksTo]
  | succ k ih =>
    unfold firstOf at ih ⊢
    rw [marksTo_succ, List.length_append, Nat.succ_mul]
    have := mkAt_len g k
    omega
theorem rowOf_pl {n : Nat} (g : List Nd) (at_ : Nat) (m : Mk) : plD (n + 1) (rowOfMark g at_ m) = true := by
  obtain ⟨k, b⟩ := m
  have pi : ∀ i : Int, plD n (.int i) = true := fun i => by cases n <;> rfl
  have ps : ∀ s : Cs, plD n (.str s) = true := fun s => by cases n <;> rfl
  have tup : ∀ xs : List D, xs.length < 1000000 → xs.all (plD n) = true → plD (n + 1) (.tup xs) = true := fun xs h1 h2 => by
    show (decide (xs.length < 1000000) && plDL n xs) = true
    rw [plDL_all, h2, decide_eq_true h1]
    rfl
  cases b with
  | true => exact tup _ (by simp) (by simp [pi, ps])
  | false =>
    show plD (n + 1) (match g[k]? with
    | some (.sum x a s b _) => .tup [.int (at_ : Int), .str cSum, .str x, opD a, .str s, opD b]
    | some (.test a s b y _) => .tup [.int (at_ : Int), .str cTest, opD a, .str s, opD b, .int (firstOf g y : Nat)]
    | some .fin => .tup [.int (at_ : Int), .str cEnd]
    | some .spin => .tup [.int (at_ : Int), .str cJump, .int (at_ : Int)]
    | none => .non) = true
    cases g[k]? with
    | none => rfl
    | some x => cases x <;> exact tup _ (by simp) (by simp [pi, ps, pl_op])
theorem rows_pl {n : Nat} (g : List Nd) (ms : List Mk) (h : ms.length < 1000000) : plD (n + 2) (.lst false (rowsMk g ms)) = true := by
  show (!false && (decide ((rowsMk g ms).length < 1000000) && plDL (n + 1) (rowsMk g ms))) = true
  rw [rowsMk_len, plDL_all, decide_eq_true h]
  simp only [Bool.not_false, Bool.true_and]
  apply List.all_eq_true.mpr
  intro d hd
  obtain ⟨p, _, rfl⟩ := List.mem_map.mp hd
  exact rowOf_pl g _ _
theorem rows_fz (g : List Nd) (ms : List Mk) : isFzL (rowsMk g ms) = true := by
  rw [isFzL_all]
  apply List.all_eq_true.mpr
  intro d hd
  obtain ⟨p, _, rfl⟩ := List.mem_map.mp hd
  exact plD_fz 1 _ (rowOf_pl (n := 0) g _ _)
theorem rows_frz (g : List Nd) (ms : List Mk) : frzL (rowsMk g ms) = rowsMk g ms := frzL_id (rows_fz g ms)
/-! marks as data -/
def mkD (m : Mk) : D := .tup [.int (m.1 : Int), .str (if m.2 then cJump else cDeed)]
theorem mkD_fz (ms : List Mk) : isFzL (ms.map mkD) = true := by rw [isFzL_all]; simp [mkD, isFz, isFzL]
theorem mkD_frz (ms : List Mk) : frzL (ms.map mkD) = ms.map mkD := frzL_id (mkD_fz ms)
theorem mkD_ok (m : Mk) (n : Nat) : okD (n + 1) (mkD m) = true := by
  obtain ⟨k, b⟩ := m
  show okDL n [.int (k : Int), .str (if b then cJump else cDeed)] = true
  rw [okDL_all]
  cases b <;> cases n <;> rfl
theorem mkDs_ok (ms : List Mk) (m : Bool) : okD 64 (.lst m (ms.map mkD)) = true := by
  show okDL 63 (ms.map mkD) = true
  rw [okDL_all, List.all_map]
  exact List.all_eq_true.mpr fun x _ => mkD_ok x 62
theorem deq_mk (a b : Mk) : deq (mkD a) (mkD b) = decide (a = b) := by
  obtain ⟨a1, a2⟩ := a
  obtain ⟨b1, b2⟩ := b
  show (deq (.int (a1 : Int)) (.int (b1 : Int)) && (deq (.str _) (.str _) && true)) = _
  rw [deq_i, deq_s, Bool.and_true, Bool.eq_iff_iff, Bool.and_eq_true, decide_eq_true_iff, decide_eq_true_iff, decide_eq_true_iff, Prod.mk.injEq]
  constructor
  · rintro ⟨h1, h2⟩
    refine ⟨by omega, ?_⟩
    cases a2 <;> cases b2 <;> first | rfl | (exfalso; have h3 : cDeed = cJump := (by first | exact h2 | exact h2.symm); exact absurd h3 (by decide))
  · rintro ⟨rfl, rfl⟩
    exact ⟨rfl, rfl⟩
theorem idx_mk {ms : List Mk} {m : Mk} (h : m ∈ ms) : idxAt (ms.map mkD) (mkD m) = some (ms.idxOf m) := by
  unfold idxAt
  induction ms with
  | nil => cases h
  | cons a ms ih =>
    rw [List.map_cons, List.findIdx?_cons, deq_mk, List.idxOf_cons]
    by_cases e : a = m
    · subst e
      simp
    · have h3 : (a == m) = false := by rw [beq_eq_false_iff_ne]; exact e
      rw [h3]
      simp only [e, decide_false, cond_false]
      rw [ih (by rcases List.mem_cons.mp h with h | h; exact absurd h.symm e; exact h)]
      rfl
theorem idxOk_mk {ms : List Mk} {m : Mk} {b : Bool} : idxOk b (ms.map mkD) (mkD m) := .inr (by rw [mkD_ok m 63, mkDs_ok]; rfl)
/-- where a node's own row stands -/
theorem idx_deed {g : List Nd} {k : Nat} (hk : k < g.length) : ((k, false) ∈ marksTo g g.length) ∧ (marksTo g g.length).idxOf (k, false) = firstOf g k := by
  have nin : ∀ n, n ≤ k → (k, false) ∉ marksTo g n := fun n hn hm => by
    unfold marksTo at hm
    obtain ⟨i, hi, hm⟩ := List.mem_flatMap.mp hm
    have hi := List.mem_range.mp hi
    unfold mkAt at hm
    cases e : g[i]? with
    | none => rw [e] at hm; cases hm
    | some x =>
      rw [e] at hm
      rcases List.mem_cons.mp hm with h | h
      · have := (Prod.mk.inj h).1
        omega
      · split at h
        · obtain ⟨_, _, h⟩ := List.mem_map.mp h
          cases h
        · cases h
  have split : ∀ n, k < n → n ≤ g.length → ∃ R, marksTo g n = marksTo g k ++ (k, false) :: R := fun n hn hl => by
    induction n with
    | zero => omega
    | succ n ih =>
      rw [marksTo_succ]
      by_cases e : n = k
      · subst e
        unfold mkAt
        rw [List.getElem?_eq_getElem hk]
        exact ⟨_, rfl⟩
      · obtain ⟨R, h⟩ := ih (by omega) (by omega)
        exact ⟨R ++ mkAt g n, by rw [h]; simp⟩
  obtain ⟨R, h⟩ := split g.length hk (Nat.le_refl _)
  rw [h]
  refine ⟨by simp, ?_⟩
  rw [List.idxOf_append, if_neg (nin k (Nat.le_refl _)), List.idxOf_cons_self, Nat.zero_add]
  rfl
theorem ndD_sum {x : Cs} {a : Opd} {s : Cs} {b : Opd} {to : Nat} : ndD (.sum x a s b to) = .tup [.str cSum, .str x, opD a, .str s, opD b, .int (to : Int)] := rfl
theorem ndD_test {a : Opd} {s : Cs} {b : Opd} {y n : Nat} : ndD (.test a s b y n) = .tup [.str cTest, opD a, .str s, opD b, .int (y : Int), .int (n : Int)] := rfl
theorem ndD_fin : ndD .fin = .tup [.str cEnd] := rfl
theorem ndD_spin : ndD .spin = .tup [.str cSpin] := rfl
end VL
/-! VL30: the greatest of a list; what stands on each way to a node. -/
namespace VL
open PySem PySem.Spec PyProof.Rows L2 VL
section
variable {K : PySem.W.Frag} {G H : Hp}
theorem ints_vs : ∀ {ns : List Int} {vs : List V} {F : List Addr}, RpL K G H (ns.map D.int) vs F → vs = ns.map V.int
  | [], vs, F, r => by obtain ⟨rfl, _⟩ := r; rfl
  | n :: ns, vs, F, r => by
    obtain ⟨v, vs', F1, F2, rfl, rfl, ⟨rfl, _⟩, rs⟩ := r
    rw [ints_vs rs]
    rfl
def sMaxL : List D → (D → Prop) → Prop := fun ds Q => ∃ m xs, ∃ ns : List Int, ds = [.lst m xs] ∧ xs = ns.map D.int ∧ 0 < ns.length ∧ ∀ z ∈ ns, (∀ y ∈ ns, y ≤ z) → Q (.int z)
theorem opn_maxL : OpN K (rMax K) sMaxL := OpN.pure fun G H ds vs F Q Q' hs r q k => by
  obtain ⟨m, xs, ns, rfl, rfl, h0, q⟩ := q
  obtain ⟨v, rfl, rl⟩ := r.one'
  have hx : ∃ a us F', v = .ref a ∧ SqL K H a us ∧ RpL K G H (ns.map D.int) us F' := by
    cases m with
    | false => obtain ⟨a, us, e, s, _, r⟩ := rl; exact ⟨a, us, _, e, hs.sqL s, r⟩
    | true => obtain ⟨a, us, F', e, s, _, r⟩ := rl; exact ⟨a, us, _, e, SqL.of s, r⟩
  obtain ⟨a, us, F', rfl, s, r⟩ := hx
  rw [ints_vs r] at s
  exact ⟨a, ns, rfl, s, h0, fun z h1 h2 => k (.int z) _ (fun _ _ _ => ⟨rfl, rfl⟩) (q z h1 h2)⟩
theorem natsD_ints (xs : List Nat) : natsD xs = (xs.map fun k : Nat => (k : Int)).map D.int := by unfold natsD; rw [List.map_map]; rfl
theorem e_maxL {m : Bool} {xs : List Nat} {Q : D → Prop} : sMaxL [.lst m (natsD xs)] Q ↔ 0 < xs.length ∧ ∀ z ∈ xs, (∀ y ∈ xs, y ≤ z) → Q (.int (z : Int)) := by
  constructor
  · rintro ⟨_, _, ns, e, e2, h0, q⟩
    cases e
    rw [natsD_ints] at e2
    have := ints_inj e2
    subst this
    refine ⟨by simpa using h0, fun z hz h => q z (List.mem_map.mpr ⟨z, hz, rfl⟩) fun w hw => ?_⟩
    obtain ⟨y, hy, e⟩ := List.mem_map.mp hw
    have := h y hy
    rw [← e]
    show (y : Int) ≤ (z : Int)
    omega
  · rintro ⟨h0, q⟩
    refine ⟨_, _, _, rfl, natsD_ints xs, by simpa using h0, fun w hw h => ?_⟩
    obtain ⟨z, hz, e⟩ := List.mem_map.mp hw
    subst e
    refine q z hz fun y hy => ?_
    have : (y : Int) ≤ (z : Int) := h y (List.mem_map.mpr ⟨y, hy, rfl⟩)
    omega
end
theorem rngS (a m : Nat) : rng (a : Int) m = natsD (List.range' a m) := by
  unfold rng natsD
  rw [List.range'_eq_map_range, List.map_map]
  exact List.map_congr_left fun k _ => by show D.int ((a : Int) + (k : Int)) = D.int ((a + k : Nat) : Int); rw [Int.natCast_add]
/-! ### a number, or none -/
def optD : Option Nat → D
  | none => .non
  | some k => .int (k : Int)
theorem optD_fz (a : Option Nat) : isFz (optD a) = true := by cases a <;> rfl
theorem optD_frz (a : Option Nat) : frz (optD a) = optD a := by cases a <;> rfl
theorem optD_flat (a : Option Nat) : flatD (optD a) = true := by cases a <;> rfl
theorem opts_fz (xs : List (Option Nat)) : isFzL (xs.map optD) = true := by rw [isFzL_all]; simp [optD_fz]
theorem opts_frz (xs : List (Option Nat)) : frzL (xs.map optD) = xs.map optD := frzL_id (opts_fz xs)
theorem optD_s (k : Nat) : optD (some k) = .int (k : Int) := rfl
theorem optD_n : optD none = .non := rfl
theorem optD_inj : ∀ {a b : Option Nat}, optD a = optD b → a = b
  | none, none, _ => rfl
  | some a, some b, h => by have := D.int.inj h; congr; omega
theorem opts_inj {a b : List (Option Nat)} (h : a.map optD = b.map optD) : a = b := (List.map_inj_right (fun _ _ h => optD_inj h)).mp h
theorem opts_ok (m : Bool) (xs : List (Option Nat)) : okD 64 (.lst m (xs.map optD)) = true := by
  show okDL 63 (xs.map optD) = true
  rw [okDL_all, List.all_map]
  exact List.all_eq_true.mpr fun x _ => by cases x <;> rfl
theorem opts_dq (xs : List (Option Nat)) : deqL (xs.map optD) (xs.map optD) = true := deqL_self (n := 63) (by rw [okDL_all, List.all_map]; exact List.all_eq_true.mpr fun x _ => by cases x <;> rfl)
theorem pl_opts (n : Nat) (xs : List (Option Nat)) : plDL n (xs.map optD) = true := by
  rw [plDL_all, List.all_map]
  exact List.all_eq_true.mpr fun x _ => by cases n <;> cases x <;> rfl
theorem ix_opts {xs : List (Option Nat)} {k : Nat} {x : Option Nat} (h : xs[k]? = some x) {P : D → Prop} : (∃ d, ((ixN xs.length (k : Int)).bind fun j => (xs.map optD)[j]?) = some d ∧ isFz d = true ∧ P d) ↔ P (optD x) :=
  ix_at (by rw [List.getElem?_map, h]; rfl) (optD_fz x) (by simp)
/-! ### what can be come to without a node -/
inductive Rch (f : Nat → List Nat) (o : Nat) : Nat → Prop
  | zero : o ≠ 0 → Rch f o 0
  | step {k t : Nat} : Rch f o k → t ∈ f k → t ≠ o → Rch f o t
structure Gf (f : Nat → List Nat) (n : Nat) : Prop where
  pos : 0 < n
  clo : ∀ k < n, ∀ t ∈ f k, t < n
  par : ∀ k, 0 < k → k < n → ∃ p, p < k ∧ k ∈ f p
theorem GOk.gf {g : List Nd} (h : GOk g) : Gf (glOf g) g.length where
  pos := h.pos
  clo := fun k hk t ht => by
    unfold glOf at ht
    rw [List.getElem?_eq_getElem hk] at ht
    exact h.ok _ (List.getElem_mem hk) t ht
  par := fun k h0 hk => by
    obtain ⟨p, x, hp, hx, hg⟩ := h.par k h0 hk
    exact ⟨p, hp, by unfold glOf; rw [hx]; exact hg⟩
section
variable {f : Nat → List Nat} {n : Nat}
theorem Rch.ne {o k : Nat} (h : Rch f o k) : k ≠ o := by
  cases h with
  | zero h => exact fun e => h e.symm
  | step _ _ h => exact h
theorem Rch.lt (G : Gf f n) {o k : Nat} (h : Rch f o k) : k < n := by
  induction h with
  | zero _ => exact G.pos
  | step _ ht _ ih => exact G.clo _ ih _ ht
theorem Rch.no0 {k : Nat} : ¬Rch f 0 k := fun h => by
  induction h with
  | zero h => exact h rfl
  | step _ _ _ ih => exact ih
theorem rch_below (G : Gf f n) {o : Nat} : ∀ k, k < n → k < o → Rch f o k := by
  intro k
  induction k using Nat.strongRecOn with
  | ind k ih =>
    intro hk ho
    by_cases h0 : k = 0
    · subst h0; exact .zero (by omega)
    · obtain ⟨p, hp, hm⟩ := G.par k (by omega) hk
      exact .step (ih p hp (by omega) (by omega)) hm (by omega)
/-- o stands on each way to k -/
def Dm (f : Nat → List Nat) (o k : Nat) : Prop := ¬Rch f o k
theorem Dm.self (k : Nat) : Dm f k k := fun h => h.ne rfl
theorem Dm.zero (k : Nat) : Dm f 0 k := Rch.no0
theorem Dm.le (G : Gf f n) {o k : Nat} (hk : k < n) (h : Dm f o k) : o ≤ k := by
  by_cases e : k < o
  · exact absurd (rch_below G k hk e) h
  · omega
theorem Dm.trans {a b k : Nat} (h1 : Dm f a b) (h2 : Dm f b k) : Dm f a k := fun h => by
  have : ∀ k, Rch f a k → Rch f b k ∨ Rch f a b := fun k h => by
    induction h with
    | zero h =>
      by_cases e : b = 0
      · subst e; exact .inr (.zero h)
      · exact .inl (.zero e)
    | @step k t hk ht hne ih =>
      rcases ih with ih | ih
      · by_cases e : t = b
        · subst e; exact .inr (.step hk ht hne)
        · exact .inl (.step ih ht e)
      · exact .inr ih
  rcases this k h with h | h
  · exact h2 h
  · exact h1 h
theorem Dm.chain (G : Gf f n) {a b k : Nat} (hk : k < n) (h1 : Dm f a k) (h2 : Dm f b k) (hab : a < b) : Dm f a b := fun h => by
  have hb := h2.le G hk
  have hba : Rch f b a := rch_below G a (by omega) hab
  have : ∀ k, k < n → Rch f a k ∨ Rch f b k := by
    intro k
    induction k using Nat.strongRecOn with
    | ind k ih =>
      intro hk
      by_cases h0 : k = 0
      · subst h0
        by_cases e : a = 0
        · exact .inr (.zero (by omega))
        · exact .inl (.zero e)
      · obtain ⟨p, hp, hm⟩ := G.par k (by omega) hk
        rcases ih p hp (by omega) with q | q
        · by_cases e : k = a
          · subst e; exact .inr hba
          · exact .inl (.step q hm e)
        · by_cases e : k = b
          · subst e; exact .inl h
          · exact .inr (.step q hm e)
  rcases this k hk with q | q
  · exact h1 q
  · exact h2 q
/-- the last of those that stand on each way to k, k apart -/
structure IsId (f : Nat → List Nat) (k z : Nat) : Prop where
  dm : Dm f z k
  lt : z < k
  last : ∀ o, Dm f o k → o ≠ k → o ≤ z
theorem IsId.uniq {k y z : Nat} (h1 : IsId f k y) (h2 : IsId f k z) : y = z := by
  have a := h1.last z h2.dm (by have := h2.lt; omega)
  have b := h2.last y h1.dm (by have := h1.lt; omega)
  omega
structure IsTree (f : Nat → List Nat) (n : Nat) (ts : List (Option Nat)) : Prop where
  len : ts.length = n
  zero : ts[0]? = some none
  id : ∀ k, 0 < k → k < n → ∃ z, ts[k]? = some (some z) ∧ IsId f k z
theorem IsTree.uniq {ts us : List (Option Nat)} (h1 : IsTree f n ts) (h2 : IsTree f n us) : ts = us := by
  apply List.ext_getElem?
  intro i
  by_cases hi : i < n
  · by_cases h0 : i = 0
    · subst h0; rw [h1.zero, h2.zero]
    · obtain ⟨y, e1, i1⟩ := h1.id i (by omega) hi
      obtain ⟨z, e2, i2⟩ := h2.id i (by omega) hi
      rw [e1, e2, i1.uniq i2]
  · rw [List.getElem?_eq_none (by rw [h1.len]; omega), List.getElem?_eq_none (by rw [h2.len]; omega)]
/-- up a tree -/
inductive Abv (ts : List (Option Nat)) (o : Nat) : Nat → Prop
  | self : Abv ts o o
  | up {k j : Nat} : ts[k]? = some (some j) → Abv ts o j → Abv ts o k
theorem abv_iff {ts : List (Option Nat)} {o k : Nat} : Abv ts o k ↔ o = k ∨ ∃ j, ts[k]? = some (some j) ∧ Abv ts o j := by
  constructor
  · intro h
    cases h with
    | self => exact .inl rfl
    | up a b => exact .inr ⟨_, a, b⟩
  · rintro (rfl | ⟨j, a, b⟩)
    · exact .self
    · exact .up a b
theorem IsTree.abv (G : Gf f n) {ts : List (Option Nat)} (T : IsTree f n ts) {o : Nat} : ∀ k, k < n → (Abv ts o k ↔ Dm f o k) := by
  intro k
  induction k using Nat.strongRecOn with
  | ind k ih =>
    intro hk
    rw [abv_iff]
    by_cases h0 : k = 0
    · subst h0
      rw [T.zero]
      constructor
      · rintro (rfl | ⟨j, e, _⟩)
        · exact Dm.self _
        · cases e
      · intro h
        have := h.le G hk
        exact .inl (by omega)
    · obtain ⟨z, e, i⟩ := T.id k (by omega) hk
      have hz := i.lt
      rw [e]
      constructor
      · rintro (rfl | ⟨j, e2, h⟩)
        · exact Dm.self _
        · cases e2
          exact ((ih z hz (by omega)).mp h).trans i.dm
      · intro h
        by_cases e2 : o = k
        · exact .inl e2
        · refine .inr ⟨z, rfl, (ih z hz (by omega)).mpr ?_⟩
          have := i.last o h e2
          by_cases e3 : o = z
          · subst e3; exact Dm.self _
          · exact Dm.chain G hk h i.dm (by omega)
end
/-- each one's upper is smaller -/
def TLt (ts : List (Option Nat)) : Prop := ∀ k j : Nat, ts[k]? = some (some j) → j < k
theorem IsTree.tlt {f : Nat → List Nat} {n : Nat} {ts : List (Option Nat)} (T : IsTree f n ts) : TLt ts := fun k j e => by
  have hk : k < ts.length := (List.getElem?_eq_some_iff.mp e).1
  rw [T.len] at hk
  by_cases h0 : k = 0
  · subst h0; rw [T.zero] at e; cases e
  · obtain ⟨z, e2, i⟩ := T.id k (by omega) hk
    rw [e] at e2
    cases e2
    exact i.lt
open Classical in
noncomputable def domL (f : Nat → List Nat) (n k : Nat) : List Nat := (List.range n).filter fun o => decide (Dm f o k)
open Classical in
theorem mem_domL {f : Nat → List Nat} {n k o : Nat} : o ∈ domL f n k ↔ o < n ∧ Dm f o k := by
  unfold domL
  rw [List.mem_filter, List.mem_range, decide_eq_true_iff]
end VL
/-! VL31: the tree of the last ones that stand on each way, found by passes. -/
namespace VL
open PySem PySem.Spec PyProof.Rows L2 VL
def SetK (ts : List (Option Nat)) (k : Nat) : Prop := k = 0 ∨ ∃ j, ts[k]? = some (some j)
/-- a way from j to k, on nodes from j on -/
inductive Pth (f : Nat → List Nat) (j : Nat) : Nat → Prop
  | refl : Pth f j j
  | step {a b : Nat} : Pth f j a → b ∈ f a → j ≤ b → Pth f j b
theorem Pth.le {f : Nat → List Nat} {j k : Nat} (h : Pth f j k) : j ≤ k := by
  cases h with
  | refl => exact Nat.le_refl _
  | step _ _ h => exact h
theorem Pth.trans {f : Nat → List Nat} {i j k : Nat} (h1 : Pth f i j) (h2 : Pth f j k) : Pth f i k := by
  induction h2 with
  | refl => exact h1
  | step _ hb hj ih => exact .step ih hb (Nat.le_trans h1.le hj)
theorem Pth.rch {f : Nat → List Nat} {o j k : Nat} (h : Pth f j k) (ho : o < j) (r : Rch f o j) : Rch f o k := by
  induction h with
  | refl => exact r
  | step _ hb hj ih => exact .step ih hb (by omega)
/-- a way from 0 to k without o, with fewer than r steps that do not lead on -/
inductive Rn (f : Nat → List Nat) (o : Nat) : Nat → Nat → Prop
  | zero {r : Nat} : o ≠ 0 → Rn f o (r + 1) 0
  | fwd {r p t : Nat} : Rn f o r p → t ∈ f p → t ≠ o → p < t → Rn f o r t
  | back {r p t : Nat} : Rn f o r p → t ∈ f p → t ≠ o → Rn f o (r + 1) t
section
variable {f : Nat → List Nat} {n : Nat}
theorem Rn.no {o k : Nat} : ¬Rn f o 0 k := fun h => by
  generalize e : 0 = r at h
  induction h with
  | zero _ => cases e
  | fwd _ _ _ _ ih => exact ih e
  | back _ _ _ _ => cases e
theorem Rn.up {o k r : Nat} (h : Rn f o r k) : Rn f o (r + 1) k := by
  induction h with
  | zero h => exact .zero h
  | fwd _ a b c ih => exact .fwd ih a b c
  | back _ a b ih => exact .back ih a b
theorem Rn.le {o k r s : Nat} (h : Rn f o r k) (hs : r ≤ s) : Rn f o s k := by
  induction hs with
  | refl => exact h
  | step _ ih => exact ih.up
theorem Rn.rch {o k r : Nat} (h : Rn f o r k) : Rch f o k := by
  induction h with
  | zero h => exact .zero h
  | fwd _ a b _ ih => exact .step ih a b
  | back _ a b ih => exact .step ih a b
theorem Rch.rn {o k : Nat} (h : Rch f o k) : ∃ r, Rn f o r k := by
  induction h with
  | zero h => exact ⟨1, .zero h⟩
  | step _ a b ih => obtain ⟨r, ih⟩ := ih; exact ⟨r + 1, .back ih a b⟩
theorem Rn.ne {o k r : Nat} (h : Rn f o r k) : k ≠ o := h.rch.ne
theorem Rn.thru {o k j r : Nat} (h : Rn f o r j) : Rn f k r j ∨ Rn f o r k := by
  induction h with
  | zero h =>
    by_cases e : k = 0
    · subst e; exact .inr (.zero h)
    · exact .inl (.zero e)
  | @fwd r p t hp a b c ih =>
    by_cases e : t = k
    · subst e; exact .inr (.fwd hp a b c)
    · rcases ih with ih | ih
      · exact .inl (.fwd ih a e c)
      · exact .inr ih
  | @back r p t hp a b ih =>
    by_cases e : t = k
    · subst e; exact .inr (.back hp a b)
    · rcases ih with ih | ih
      · exact .inl (.back ih a e)
      · exact .inr ih.up
/-- how many such steps are enough -/
theorem rn_enough (f : Nat → List Nat) (n : Nat) : ∃ N, ∀ o < n, ∀ k < n, Rch f o k → Rn f o N k := by
  have one : ∀ (g : Nat → Nat → Prop), (∀ o r s, g o r → r ≤ s → g o s) → ∀ m, (∀ o < m, ∃ r, g o r) → ∃ N, ∀ o < m, g o N := by
    intro g hg m
    induction m with
    | zero => intro _; exact ⟨0, fun o h => absurd h (Nat.not_lt_zero _)⟩
    | succ m ih =>
      intro h
      obtain ⟨N, hN⟩ := ih fun o ho => h o (by omega)
      obtain ⟨r, hr⟩ := h m (by omega)
      refine ⟨N + r, fun o ho => ?_⟩
      by_cases e : o = m
      · subst e; exact hg _ _ _ hr (by omega)
      · exact hg _ _ _ (hN o (by omega)) (by omega)
  refine one (fun o r => ∀ k < n, Rch f o k → Rn f o r k) (fun o r s h hs k hk hr => (h k hk hr).le hs) n fun o ho => ?_
  refine one (fun k r => Rch f o k → Rn f o r k) (fun k r s h hs hr => (h hr).le hs) n fun k hk => ?_
  by_cases e : Rch f o k
  · obtain ⟨r, hr⟩ := e.rn
    exact ⟨r, fun _ => hr⟩
  · exact ⟨0, fun h => absurd h e⟩
/-! ### chains -/
theorem Abv.trans {ts : List (Option Nat)} {a b c : Nat} (h1 : Abv ts a b) (h2 : Abv ts b c) : Abv ts a c := by
  induction h2 with
  | self => exact h1
  | up e _ ih => exact .up e ih
theorem Abv.le {ts : List (Option Nat)} (T : TLt ts) {o k : Nat} (h : Abv ts o k) : o ≤ k := by
  induction h with
  | self => exact Nat.le_refl _
  | up e _ ih => have := T _ _ e; omega
structure MI (f : Nat → List Nat) (n : Nat) (ts : List (Option Nat)) : Prop where
  len : ts.length = n
  zero : ts[0]? = some none
  lt : TLt ts
  clo : ∀ k j : Nat, ts[k]? = some (some j) → SetK ts j
  pth : ∀ k j : Nat, ts[k]? = some (some j) → Pth f j k
  dm : ∀ k < n, SetK ts k → ∀ o, Dm f o k → Abv ts o k
def Lv (f : Nat → List Nat) (n : Nat) (ts : List (Option Nat)) (r i : Nat) : Prop := ∀ k < n, SetK ts k → ∀ o, Abv ts o k → ¬Rn f o (if k < i then r + 1 else r) k
theorem MI.path {ts : List (Option Nat)} (M : MI f n ts) {m k : Nat} (h : Abv ts m k) : Pth f m k := by
  induction h with
  | self => exact .refl
  | up e _ ih => exact ih.trans (M.pth _ _ e)
theorem MI.abv0 {ts : List (Option Nat)} (M : MI f n ts) {o : Nat} (h : Abv ts o 0) : o = 0 := by
  rcases abv_iff.mp h with h | ⟨j, e, _⟩
  · exact h
  · rw [M.zero] at e; cases e
/-- the common ones of the ways in that are known -/
def Must (f : Nat → List Nat) (n : Nat) (ts : List (Option Nat)) (k m : Nat) : Prop := ∀ o, Abv ts o m ↔ ∀ p < n, k ∈ f p → SetK ts p → Abv ts o p
section
variable {ts : List (Option Nat)} {k m : Nat}
theorem set_get {x y : Nat} (h : (ts.set k (some m))[x]? = some (some y)) : (x = k ∧ y = m) ∨ (x ≠ k ∧ ts[x]? = some (some y)) := by
  rw [List.getElem?_set] at h
  by_cases e : k = x
  · subst e
    rw [if_pos rfl] at h
    split at h
    · cases h; exact .inl ⟨rfl, rfl⟩
    · cases h
  · rw [if_neg e] at h
    exact .inr ⟨fun z => e z.symm, h⟩
theorem get_set {x y : Nat} (e : x ≠ k) (h : ts[x]? = some (some y)) : (ts.set k (some m))[x]? = some (some y) := by
  rw [List.getElem?_set_ne (fun z => e z.symm)]
  exact h
theorem abv_new {o j : Nat} (h : Abv (ts.set k (some m)) o j) : Abv ts o j ∨ (Abv ts k j ∧ Abv (ts.set k (some m)) o k) := by
  induction h with
  | self => exact .inl .self
  | @up x y e h ih =>
    rcases set_get e with ⟨rfl, rfl⟩ | ⟨hx, e2⟩
    · exact .inr ⟨.self, .up e h⟩
    · rcases ih with ih | ⟨i1, i2⟩
      · exact .inl (.up e2 ih)
      · exact .inr ⟨.up e2 i1, i2⟩
theorem abv_old (T : TLt ts) {o j : Nat} (h : Abv ts o j) : Abv (ts.set k (some m)) o j ∨ (Abv ts k j ∧ o < k ∧ Abv ts o k) := by
  induction h with
  | self => exact .inl .self
  | @up x y e h ih =>
    by_cases hx : x = k
    · subst hx
      have := T _ _ e
      have := h.le T
      exact .inr ⟨.self, by omega, .up e h⟩
    · rcases ih with ih | ⟨i1, i2, i3⟩
      · exact .inl (.up (get_set hx e) ih)
      · exact .inr ⟨.up e i1, i2, i3⟩
theorem abv_low (T : TLt ts) {o j : Nat} (hj : j < k) : Abv (ts.set k (some m)) o j ↔ Abv ts o j := by
  constructor
  · intro h
    rcases abv_new h with h | ⟨h, _⟩
    · exact h
    · have := h.le T; omega
  · intro h
    rcases abv_old (k := k) (m := m) T h with h | ⟨h, _⟩
    · exact h
    · have := h.le T; omega
theorem abv_at (hk : k < ts.length) (T : TLt ts) (hm : m < k) {o : Nat} : Abv (ts.set k (some m)) o k ↔ o = k ∨ Abv ts o m := by
  rw [abv_iff]
  have e : (ts.set k (some m))[k]? = some (some m) := by rw [List.getElem?_set_self (by omega)]
  rw [e]
  constructor
  · rintro (h | ⟨j, e, h⟩)
    · exact .inl h
    · cases e; exact .inr ((abv_low T hm).mp h)
  · rintro (h | h)
    · exact .inl h
    · exact .inr ⟨m, rfl, (abv_low T hm).mpr h⟩
theorem SetK.set {x : Nat} (h : SetK ts x) : SetK (ts.set k (some m)) x := by
  rcases h with h | ⟨j, h⟩
  · exact .inl h
  · by_cases e : x = k
    · subst e
      exact .inr ⟨m, by rw [List.getElem?_set_self (List.getElem?_eq_some_iff.mp h).1]⟩
    · exact .inr ⟨j, get_set e h⟩
theorem SetK.unset {x : Nat} (h : SetK (ts.set k (some m)) x) (e : x ≠ k) : SetK ts x := by
  rcases h with h | ⟨j, h⟩
  · exact .inl h
  · rcases set_get h with ⟨z, _⟩ | ⟨_, h⟩
    · exact absurd z e
    · exact .inr ⟨j, h⟩
theorem must_lt (G : Gf f n) (h0 : 0 < k) (hk : k < n) (M : MI f n ts) (hs : ∀ j < k, SetK ts j) (hm : Must f n ts k m) : m < k ∧ ∃ p, p < k ∧ k ∈ f p ∧ Abv ts m p := by
  obtain ⟨p, hp, hf⟩ := G.par k h0 hk
  have := (hm m).mp .self p (by omega) hf (hs p hp)
  have h2 := this.le M.lt
  exact ⟨by omega, p, hp, hf, this⟩
theorem must_step (G : Gf f n) {r : Nat} (h0 : 0 < k) (hk : k < n) (M : MI f n ts) (L : Lv f n ts r k) (hs : ∀ j < k, SetK ts j) (ha : 0 < r → ∀ j < n, SetK ts j) (hm : Must f n ts k m) (sm : SetK ts m) :
    MI f n (ts.set k (some m)) ∧ Lv f n (ts.set k (some m)) r (k + 1) ∧ (∀ j < k + 1, SetK (ts.set k (some m)) j) ∧ (0 < r → ∀ j < n, SetK (ts.set k (some m)) j) := by
  obtain ⟨mk, p0, hp0, hf0, ha0⟩ := must_lt G h0 hk M hs hm
  have kl : k < ts.length := by rw [M.len]; exact hk
  have at_ := fun o => abv_at (ts := ts) (k := k) (m := m) kl M.lt mk (o := o)
  have ek : (ts.set k (some m))[k]? = some (some m) := by rw [List.getElem?_set_self kl]
  have atk : ∀ o, Abv (ts.set k (some m)) o k → ¬Rn f o (r + 1) k := by
    intro o ho hr
    rcases (at_ o).mp ho with rfl | h
    · exact hr.ne rfl
    · have key : ∀ p < n, k ∈ f p → ∀ s, (s = r + 1 → p < k) → s ≤ r + 1 → (s = 0 → False) → Rn f o s p → False := by
        intro p hp hf s hs1 hs2 hs0 hn
        have sp : SetK ts p := by
          by_cases e : p < k
          · exact hs p e
          · exact ha (by have : s ≠ r + 1 := fun z => e (hs1 z); have : s ≠ 0 := hs0; omega) p hp
        have := L p hp sp o ((hm o).mp h p hp hf sp)
        by_cases e : p < k
        · rw [if_pos e] at this
          exact this (hn.le hs2)
        · rw [if_neg e] at this
          exact this (hn.le (by have : s ≠ r + 1 := fun z => e (hs1 z); omega))
      cases hr with
      | zero _ => omega
      | @fwd _ p _ hp a b c => exact key p (hp.rch.lt G) a (r + 1) (fun _ => c) (Nat.le_refl _) (by omega) hp
      | @back _ p _ hp a b =>
        by_cases e : r = 0
        · subst e; exact hp.no
        · exact key p (hp.rch.lt G) a r (by omega) (by omega) e hp
  refine ⟨⟨by rw [List.length_set]; exact M.len, by rw [List.getElem?_set_ne (by omega)]; exact M.zero, ?_, ?_, ?_, ?_⟩, ?_, ?_, ?_⟩
  · intro x y h
    rcases set_get h with ⟨rfl, rfl⟩ | ⟨_, h⟩
    · exact mk
    · exact M.lt _ _ h
  · intro x y h
    rcases set_get h with ⟨rfl, rfl⟩ | ⟨_, h⟩
    · exact sm.set
    · exact (M.clo _ _ h).set
  · intro x y h
    rcases set_get h with ⟨rfl, rfl⟩ | ⟨_, h⟩
    · exact .step (M.path ha0) hf0 (by omega)
    · exact M.pth _ _ h
  · intro j hj sj o ho
    have self : ∀ o, Dm f o k → Abv (ts.set k (some m)) o k := by
      intro o ho
      rw [at_]
      by_cases e : o = k
      · exact .inl e
      · refine .inr ((hm o).mpr fun p hp hf sp => M.dm p hp sp o fun hr => ho (.step hr hf (fun z => e z.symm)))
    by_cases e : j = k
    · subst e; exact self o ho
    · rcases abv_old (k := k) (m := m) M.lt (M.dm j hj (sj.unset e) o ho) with h | ⟨h1, h2, h3⟩
      · exact h
      · have dk : Dm f o k := fun hr => ho ((M.path h1).rch h2 hr)
        have kj : Abv (ts.set k (some m)) k j := by
          rcases abv_old (k := k) (m := m) M.lt h1 with h | ⟨_, h, _⟩
          · exact h
          · omega
        exact (self o dk).trans kj
  · intro j hj sj o ho
    by_cases e : j = k
    · subst e
      rw [if_pos (by omega)]
      exact atk o ho
    · have old := L j hj (sj.unset e)
      have e2 : (if j < k + 1 then r + 1 else r) = (if j < k then r + 1 else r) := by
        by_cases z : j < k
        · rw [if_pos z, if_pos (by omega)]
        · rw [if_neg z, if_neg (by omega)]
      rw [e2]
      rcases abv_new ho with h | ⟨h1, h2⟩
      · exact old o h
      · have hjk : ¬j < k := by have := h1.le M.lt; omega
        rw [if_neg hjk]
        intro hr
        have := old k h1
        rw [if_neg hjk] at this
        rcases hr.thru (k := k) with z | z
        · exact this z
        · exact atk o h2 z.up
  · intro j hj
    by_cases e : j = k
    · subst e; exact .inr ⟨m, ek⟩
    · exact (hs j (by omega)).set
  · exact fun hr j hj => (ha hr j hj).set
end
/-- the chains are right -/
def Exact (f : Nat → List Nat) (n : Nat) (ts : List (Option Nat)) : Prop := ∀ k < n, ∀ o, Abv ts o k → Dm f o k
theorem exact_tree (G : Gf f n) {ts : List (Option Nat)} (M : MI f n ts) (hs : ∀ j < n, SetK ts j) (E : Exact f n ts) : IsTree f n ts where
  len := M.len
  zero := M.zero
  id := fun k h0 hk => by
    rcases hs k hk with h | ⟨z, h⟩
    · omega
    · have lt := M.lt _ _ h
      refine ⟨z, h, E k hk z (.up h .self), lt, fun o ho hne => ?_⟩
      rcases abv_iff.mp (M.dm k hk (hs k hk) o ho) with e | ⟨j, e, ha⟩
      · exact absurd e hne
      · rw [h] at e
        cases e
        exact ha.le M.lt
theorem exact_level (G : Gf f n) {ts : List (Option Nat)} {r N : Nat} (hN : ∀ o < n, ∀ k < n, Rch f o k → Rn f o N k) (hr : N ≤ r) (M : MI f n ts) (hs : ∀ j < n, SetK ts j) (L : Lv f n ts r 0) : Exact f n ts := fun k hk o ho hr2 => by
  have h1 := L k hk (hs k hk) o ho
  rw [if_neg (Nat.not_lt_zero _)] at h1
  have := ho.le M.lt
  exact h1 ((hN o (by omega) k hk hr2).le hr)
theorem exact_fix (G : Gf f n) {ts : List (Option Nat)} (M : MI f n ts) (hs : ∀ j < n, SetK ts j) (F : ∀ k, 0 < k → k < n → ∃ m, ts[k]? = some (some m) ∧ Must f n ts k m) : Exact f n ts := fun k hk o ho hr => by
  induction hr with
  | zero h => exact h (M.abv0 ho)
  | @step p t hp ht hne ih =>
    have pn := hp.lt G
    by_cases h0 : t = 0
    · subst h0; exact hne (M.abv0 ho).symm
    · obtain ⟨m, e, hm⟩ := F t (by omega) hk
      rcases abv_iff.mp ho with z | ⟨j, e2, ha⟩
      · exact hne z.symm
      · rw [e] at e2
        cases e2
        exact ih pn ((hm o).mp ha p pn ht (hs p pn))
theorem exact_must (G : Gf f n) {ts : List (Option Nat)} (M : MI f n ts) (hs : ∀ j < n, SetK ts j) (E : Exact f n ts) {k m : Nat} (h0 : 0 < k) (hk : k < n) (hm : Must f n ts k m) : ts[k]? = some (some m) := by
  obtain ⟨mk, _⟩ := must_lt G h0 hk M (fun j hj => hs j (by omega)) hm
  obtain ⟨z, e, i⟩ := (exact_tree G M hs E).id k h0 hk
  have lt := i.lt
  have h1 : Dm f m k := fun hr => by
    cases hr with
    | zero _ => omega
    | @step p _ hp a b =>
      have pn := hp.lt G
      exact E p pn m ((hm m).mp .self p pn a (hs p pn)) hp
  have h2 : m ≤ z := i.last m h1 (by omega)
  have h3 : Abv ts z m := (hm z).mpr fun p hp hf sp => M.dm p hp sp z fun hr => i.dm (.step hr hf (by omega))
  have := h3.le M.lt
  have : m = z := by omega
  rw [e, this]
theorem mi_start (G : Gf f n) : MI f n (List.replicate n none) where
  len := by simp
  zero := by rw [List.getElem?_replicate, if_pos G.pos]
  lt := fun k j h => by rw [List.getElem?_replicate] at h; split at h <;> cases h
  clo := fun k j h => by rw [List.getElem?_replicate] at h; split at h <;> cases h
  pth := fun k j h => by rw [List.getElem?_replicate] at h; split at h <;> cases h
  dm := fun k hk s o ho => by
    rcases s with rfl | ⟨j, h⟩
    · have := ho.le G hk
      have : o = 0 := by omega
      subst this
      exact .self
    · rw [List.getElem?_replicate] at h; split at h <;> cases h
end
theorem eqOk_oo {a b : Option Nat} : eqOk (optD a) (optD b) ↔ True := ⟨fun _ => trivial, fun _ => by cases a <;> cases b <;> first | exact .inl ⟨rfl, rfl⟩ | exact .inr ⟨rfl, rfl⟩⟩
theorem deq_oo {a b : Option Nat} : deq (optD a) (optD b) = decide (a = b) := by
  cases a with
  | none => cases b <;> rfl
  | some a =>
    cases b with
    | none => rfl
    | some b =>
      rw [optD_s, optD_s, deq_i, Bool.eq_iff_iff, decide_eq_true_iff, decide_eq_true_iff]
      exact ⟨fun h => by congr; omega, fun h => by cases h; rfl⟩
theorem mem_comeRow {f : Nat → List Nat} {n t p : Nat} : p ∈ comeRow f n t ↔ p < n ∧ t ∈ f p := by
  unfold comeRow
  rw [List.mem_flatMap]
  constructor
  · rintro ⟨k, hk, h⟩
    rw [List.mem_replicate] at h
    obtain ⟨h1, rfl⟩ := h
    exact ⟨List.mem_range.mp hk, List.count_pos_iff.mp (by omega)⟩
  · rintro ⟨h1, h2⟩
    exact ⟨p, List.mem_range.mpr h1, List.mem_replicate.mpr ⟨by have := List.count_pos_iff.mpr h2; omega, rfl⟩⟩
def MuOk (ts : List (Option Nat)) (ps : List Nat) (mu mu' : Option Nat) : Prop := (∀ m', mu' = some m' → SetK ts m' ∧ ∀ o, Abv ts o m' ↔ (∀ m, mu = some m → Abv ts o m) ∧ ∀ p ∈ ps, SetK ts p → Abv ts o p) ∧ (mu' = none → mu = none ∧ ∀ p ∈ ps, ¬SetK ts p)
theorem SetK.iff {ts : List (Option Nat)} {k : Nat} {x : Option Nat} (h : ts[k]? = some x) : SetK ts k ↔ k = 0 ∨ x ≠ none := by
  unfold SetK
  rw [h]
  constructor
  · rintro (a | ⟨j, a⟩)
    · exact .inl a
    · cases a; exact .inr (fun z => nomatch z)
  · rintro (a | a)
    · exact .inl a
    · cases x with
      | none => exact absurd rfl a
      | some j => exact .inr ⟨j, rfl⟩
theorem putD_at {ds : List D} {k : Nat} {d : D} (h : k < ds.length) : putD (.lst true ds) (.int (k : Int)) d = some (.lst true (ds.set k d)) := by
  show (ixN ds.length (k : Int)).map _ = _
  rw [ixN_nat h]
  rfl
theorem putD_at0 {ds : List D} {d : D} (h : 0 < ds.length) : putD (.lst true ds) (.int 0) d = some (.lst true (ds.set 0 d)) := putD_at (k := 0) h
theorem opts_set {ts : List (Option Nat)} {k m : Nat} : (ts.map optD).set k (optD (some m)) = (ts.set k (some m)).map optD := by rw [List.map_set]
end VL
/-! VL32: list(reversed(xs)), len(set(xs)). -/
namespace VL
open PySem PySem.Spec PyProof.Rows L2 VL
section
variable {prog : Program} {w : World} {A : Around} {E : Value → Shared → Prop} {s : Shared}
section
variable {I S : Addr} {fp wr : List Addr} {G : Array GenState → Array GenState → Prop} {n : Nat} {P : Nat → Value → Prop} {St : Nat → Shared → Prop} {R : Result → Shared → Prop} {T : String}
abbrev FinR (prog : Program) (w : World) (A : Around) (R : Result → Shared → Prop) : Fin → Shared → Prop := fun fin s' => match fin with | .done f => R (.ok f) s' | .again c' => c'.quiet = true ∧ codeAny (model prog w) A c' R s'
theorem fed_loop (W : WalksS prog w A.in1 I fp wr G n P St) {c0 : Nat} (st : St 0 s) (hSf : S ∉ fp) (hS : s.heap.get? S = some { cls := .type "list", data := .seq #[] c0 }) (hn : n ≤ sizeLine)
    (hR : ∀ s' acc' c', Moved (S :: wr) G s s' → s'.heap.get? S = some { cls := .type "list", dict := none, data := .seq acc' c', slots := #[] } → ItemsOf P acc' n → R (.ok (.ret .none)) s') :
    FinR prog w A R (.again (.builtin "list.extend.loop" ⟨[.ref S, .ref I, .none], []⟩)) s :=
  ⟨plainId_quiet F.plain_extend_loop _, codeAny_extend_loopS W hn S hSf .none n 0 s #[] c0 rfl (Nat.zero_le n) st hS (ItemsOf.nil P) hR⟩
theorem fed_touch (W : WalksS prog w A.in1 I fp wr G n P St) {c0 : Nat} (st : St 0 s) (hSf : S ∉ fp) (hS : s.heap.get? S = some { cls := .type "list", data := .seq #[] c0 }) {Q : Unit → Shared → Prop} {E : Value → Shared → Prop}
    (k : ∀ (h' : Heap) (c1 : Nat), St 0 { s with heap := h' } → h'.get? S = some { cls := .type "list", data := .seq #[] c1 } → (∀ b o, b ≠ S → s.heap.get? b = some o → h'.get? b = some o) → Q () { s with heap := h' }) :
    wpAny (model prog w) A.in1 (Builtin.List.listTouch (.ref S)) Q E s := by
  show wpAny _ A.in1 (updateSeq S (·.push .none) >>= fun _ => updateSeq S (·.pop)) Q E s
  have g1 := Heap.get?_update_self (Obj.mapSeq (·.push Value.none)) hS rfl
  have g2 := Heap.get?_update_self (Obj.mapSeq (·.pop)) g1 rfl
  have old : ∀ b o, b ≠ S → s.heap.get? b = some o → ((s.heap.update S (Obj.mapSeq (·.push Value.none))).update S (Obj.mapSeq (·.pop))).get? b = some o := fun b o hb e => by
    rw [Heap.get?_update_other _ _ (Ne.symm hb), Heap.get?_update_other _ _ (Ne.symm hb)]
    exact e
  refine wpAny_bind (wpAny_updateSeq hS rfl (wpAny_updateSeq (hz := by seq_fits) g1 rfl ?_))
  exact k _ _ (W.frame 0 s _ s.toks st (Nat.le_refl _) fun b hb o e => old b o (fun z => hSf (z ▸ hb)) e) g2 old
/-- the new list, empty, fed by an iterator that walks -/
theorem fed_list {c0 : Nat} (W : WalksS prog w A.in1 I fp wr G n P St) (ty : s.TypeIs (.ref I) T) (t1 : (Value.type T == Value.type "list") = false) (t2 : (Value.type T == Value.type "tuple") = false) (ne : S ≠ I)
    (hint : ∀ (Q : Bool → Shared → Prop) (E : Value → Shared → Prop), (∀ (b : Bool) (tk : Nat), s.toks ≤ tk → Q b { s with toks := tk }) → wpAny (model prog w) A.in1 (Builtin.List.listLengthHint (.ref I)) Q E s)
    (st : St 0 s) (hSf : S ∉ fp) (hS : s.heap.get? S = some { cls := .type "list", data := .seq #[] c0 }) (hn : n ≤ sizeLine)
    (hR : ∀ s' acc' c', Moved (S :: wr) G s s' → s'.heap.get? S = some { cls := .type "list", dict := none, data := .seq acc' c', slots := #[] } → ItemsOf P acc' n → R (.ok (.ret .none)) s') :
    wpAny (model prog w) A.in1 (Builtin.List.listExtendWith (.ref S) (.ref I) .none) (FinR prog w A R) (fun e s' => R (.error e) s') s := by
  have sr : Builtin.List.listSameRef (.ref S) (.ref I) = false := by simp [Builtin.List.listSameRef, ne]
  unfold Builtin.List.listExtendWith
  refine wpAny_bind (wpAny_typeOf ty ?_)
  rw [if_neg (by rw [sr, t1, t2]; decide)]
  refine wpAny_bind (W.self 0 _ _ _ st (wpAny_bind (wpAny_holding (hint _ _ fun b tk htk => ?_))))
  have st2 : St 0 { s with toks := tk } := W.frame 0 s s.heap tk st htk fun _ _ _ e => e
  have mv : ∀ {h' : Heap} {s' : Shared}, (∀ b o, b ≠ S → s.heap.get? b = some o → h'.get? b = some o) → Moved (S :: wr) G { s with heap := h', toks := tk } s' → Moved (S :: wr) G s s' := fun old m =>
    Moved.trans W.gtrans ((Moved.refl W.grefl).then_heap htk fun b o hb e => old b o (fun z => hb (z ▸ List.mem_cons_self)) e) m
  dsimp only
  split
  · refine wpAny_bind (wpAny_rule (wpAny_bind (fed_touch (s := { s with toks := tk }) W st2 hSf hS fun h' c1 st3 hS3 old => ?_)))
    exact wpAny_pure (fed_loop (s := { s with heap := h', toks := tk }) W st3 hSf hS3 hn fun s' acc' c' m hS' ha => hR s' acc' c' (mv old m) hS' ha)
  · exact wpAny_pure (fed_loop (s := { s with toks := tk }) W st2 hSf hS hn fun s' acc' c' m hS' ha => hR s' acc' c' (mv (h' := s.heap) (fun _ _ _ e => e) m) hS' ha)
end
theorem fed_init {I S : Addr} {fp wr : List Addr} {G : Array GenState → Array GenState → Prop} {n : Nat} {P : Nat → Value → Prop} {St : Nat → Shared → Prop} {R : Result → Shared → Prop} {T : String}
    (W : WalksS prog w A.in1 I fp wr G n P St) (ty : s.TypeIs (.ref I) T) (t1 : (Value.type T == Value.type "list") = false) (t2 : (Value.type T == Value.type "tuple") = false) (ne : S ≠ I)
    (hint : ∀ (s : Shared) (Q : Bool → Shared → Prop) (E : Value → Shared → Prop), St 0 s → s.TypeIs (.ref I) T → (∀ (b : Bool) (tk : Nat), s.toks ≤ tk → Q b { s with toks := tk }) → wpAny (model prog w) A.in1 (Builtin.List.listLengthHint (.ref I)) Q E s)
    (st : St 0 s) (hSf : S ∉ fp) (hI : I ∈ fp) (hS : s.heap.get? S = some { cls := .type "list", data := .seq #[] }) (hn : n ≤ sizeLine)
    (hR : ∀ s' acc' c', Moved (S :: wr) G s s' → s'.heap.get? S = some { cls := .type "list", dict := none, data := .seq acc' c', slots := #[] } → ItemsOf P acc' n → R (.ok (.ret .none)) s') :
    wpAny (model prog w) A.in1 (Builtin.«list.__init__» ⟨[.ref S, .ref I], []⟩) (FinR prog w A R) (fun e s' => R (.error e) s') s := by
  show wpAny _ A.in1 (Builtin.List.listItems (.ref S) >>= fun old => Builtin.List.listUpdate (.ref S) (fun _ => #[]) >>= fun _ => letGo old.toList.reverse >>= fun _ => Builtin.List.listExtendWith (.ref S) (.ref I) .none) _ _ s
  have hN := hS
  refine wpAny_bind ?_
  unfold Builtin.List.listItems
  refine wpAny_bind (wpAny_seqItems hN rfl (wpAny_pure ?_))
  have g1 := Heap.get?_update_self (Obj.mapSeq (fun _ => (#[] : Array Value))) hS rfl
  have old : ∀ b o, b ≠ S → s.heap.get? b = some o → (s.heap.update S (Obj.mapSeq (fun _ => (#[] : Array Value)))).get? b = some o := fun b o hb e => by
    rw [Heap.get?_update_other _ _ (Ne.symm hb)]
    exact e
  show wpAny _ A.in1 (updateSeq S (fun _ => #[]) >>= _) _ _ s
  refine wpAny_bind (wpAny_updateSeq hS rfl (wpAny_bind (wpAny_letGo ?_)))
  have st2 : St 0 { s with heap := s.heap.update S (Obj.mapSeq (fun _ => (#[] : Array Value))) } := W.frame 0 s _ s.toks st (Nat.le_refl _) fun b hb o e => old b o (fun z => hSf (z ▸ hb)) e
  obtain ⟨oI, eI, cI⟩ := id ty
  refine fed_list W (T := T) ⟨oI, old I oI (Ne.symm ne) eI, cI⟩ t1 t2 ne (fun Q E k => hint _ Q E st2 ⟨oI, old I oI (Ne.symm ne) eI, cI⟩ k) st2 hSf g1 hn fun s' acc' c' m hS' ha => ?_
  exact hR s' acc' c' (Moved.trans W.gtrans ((Moved.refl W.grefl).then_heap (Nat.le_refl _) fun b o hb e => old b o (fun z => hb (z ▸ List.mem_cons_self)) e) m) hS' ha
theorem fed_call {I : Addr} {fp wr : List Addr} {G : Array GenState → Array GenState → Prop} {n : Nat} {P : Nat → Value → Prop} {St : Nat → Shared → Prop} {T : String} {Q : Value → Shared → Prop}
    (W : WalksS prog w A.in1.in1 I fp wr G n P St) (ty : s.TypeIs (.ref I) T) (t1 : (Value.type T == Value.type "list") = false) (t2 : (Value.type T == Value.type "tuple") = false)
    (hint : ∀ (s : Shared) (Q : Bool → Shared → Prop) (E : Value → Shared → Prop), St 0 s → s.TypeIs (.ref I) T → (∀ (b : Bool) (tk : Nat), s.toks ≤ tk → Q b { s with toks := tk }) → wpAny (model prog w) A.in1.in1 (Builtin.List.listLengthHint (.ref I)) Q E s)
    (st : St 0 s) (hfp : ∀ b ∈ fp, b < s.heap.objs.size) (hI : I ∈ fp) (hn : n ≤ sizeLine)
    (hQ : ∀ s' acc' c', Moved (s.heap.objs.size :: wr) G { s with heap := s.heap.push { cls := .type "list", data := .seq #[] } } s' →
      s'.heap.get? s.heap.objs.size = some { cls := .type "list", dict := none, data := .seq acc' c', slots := #[] } → ItemsOf P acc' n → Q (.ref s.heap.objs.size) s') :
    wpAny (model prog w) A (call (.type "list") [.ref I]) Q E s := by
  have hSf : s.heap.objs.size ∉ fp := fun hm => Nat.lt_irrefl _ (hfp _ hm)
  have ne : s.heap.objs.size ≠ I := fun z => hSf (z ▸ hI)
  obtain ⟨oI, eI, cI⟩ := id ty
  refine callType_codes (Q₁ := fun obj s₁ => obj = .ref s.heap.objs.size ∧ s₁ = { s with heap := s.heap.push { cls := .type "list", data := .seq #[] } }) F.called_list (F.typeCall_list_1 _) F.entry_list_init (code_list_new _ ⟨rfl, rfl⟩) fun obj s₁ h₁ => ?_
  obtain ⟨rfl, rfl⟩ := h₁
  have up : ∀ b o, s.heap.get? b = some o → (s.heap.push { cls := .type "list", data := .seq #[] }).get? b = some o := fun b o e => Heap.get?_push_of_some _ e
  have hS : (s.heap.push { cls := .type "list", data := .seq #[] }).get? s.heap.objs.size = some { cls := .type "list", data := .seq #[] } := Heap.get?_push_size _ rfl
  refine ⟨⟨_, hS, rfl⟩, F.args_list_init_2 _ _, fed_init (s := { s with heap := s.heap.push { cls := .type "list", data := .seq #[] } }) W (T := T) ⟨oI, up I oI eI, cI⟩ t1 t2 ne hint (W.frame 0 s _ s.toks st (Nat.le_refl _) fun b _ o e => up b o e) hSf hI hS hn fun s' acc' c' m hS' ha => ?_⟩
  exact ⟨rfl, hQ s' acc' c' m hS' ha⟩
/-- the hint of a list's reversed iterator -/
theorem hint_rev {I l : Addr} {i : Int} {Q : Bool → Shared → Prop} (ty : s.TypeIs (.ref I) "list_reverseiterator") (k : Q false s) : wpAny (model prog w) A (Builtin.List.listLengthHint (.ref I)) Q E s := by
  unfold Builtin.List.listLengthHint
  refine wpAny_bind (wpAny_specialOf ty RT.nolen_lri ?_)
  show wpAny _ A (specialOf (Value.ref I) (Str.ofString "__length_hint__") >>= _) Q E s
  refine wpAny_bind (wpAny_specialOf ty RT.hint_lri ?_)
  generalize hid : ("list_reverseiterator.__length_hint__" : String) = idn
  wp_delta
  rw [show splitId idn = some ("list_reverseiterator", "__length_hint__") from by subst hid; decide +kernel]
  subst hid
  refine wpAny_bind (wpAny_isInstance (b := true) ty (by rw [isSubtype_type]; kernel_rfl) (wpAny_pure k))
end
section
variable {X : Cx}
theorem pe_listRev {e : Expr} {te : TE} {p p2 pos pos2 : Pos} (hc : X.calm = true) (hg : Gl X "list") (hm : X.mg "list" = none) (hg2 : Gl X "reversed") (hm2 : X.mg "reversed" = none) (he : PE X e te)
    (hs : starEach [e] X.env = (false, eval e X.env) :: starEach [] X.env := by rfl)
    (hs2 : starEach [.Call (.Name "reversed" p2) [e] [] pos2] X.env = (false, eval (.Call (.Name "reversed" p2) [e] [] pos2) X.env) :: starEach [] X.env := by rfl) :
    PE X (.Call (.Name "list" p) [.Call (.Name "reversed" p2) [e] [] pos2] [] pos) (tRevL X.K te) := by
  refine ⟨fun pins s σ H Q I h => ?_⟩
  refine Call_ (ld_blt I hg hm boot_list (PyProof.Rows.callWith_type1 (args_cons (Call_ (ld_blt I hg2 hm2 PyProof.Rows.boot_reversed (PyProof.Rows.callWith_type1 (args_cons (thn (he.run pins s σ H _ I h) fun u s1 ⟨v, H1, I1, r1, q1⟩ => args_nil ?_) hs) hs rfl))) hs2) hs2 rfl))
  obtain ⟨a, xs, ev, hq, q⟩ := q1
  subst ev
  obtain rfl : u = Value.ref a := r1
  obtain ⟨its, rv, pl, hz⟩ := I1.list hq
  have hl := pl.isList
  obtain ⟨ol, hol, _⟩ := id hl
  refine call_reversed_list hl (args_nil ?_)
  have hn : its.toArray.size ≤ sizeLine := by rw [List.size_toArray, ← rv.length]; exact hz
  have hne : a ≠ s1.heap.objs.size := Nat.ne_of_lt (Heap.lt_size hol)
  have hcalm := I1.ok.hd hc
  have up : ∀ b o, s1.heap.get? b = some o → (s1.heap.push (revObj a ((its.toArray.size : Int) - 1))).get? b = some o := fun b o e => Heap.get?_push_of_some _ e
  have hit : (s1.heap.push (revObj a ((its.toArray.size : Int) - 1))).IsRevIter s1.heap.objs.size a ((its.toArray.size : Int) - 1) := ⟨_, Heap.get?_push_size _ rfl, rfl, rfl⟩
  have e0 : ((its.toArray.size : Nat) : Int) - 1 - ((0 : Nat) : Int) = (its.toArray.size : Int) - 1 := by omega
  have sz : (s1.heap.push (revObj a ((its.toArray.size : Int) - 1))).objs.size = s1.heap.objs.size + 1 := Heap.size_push ..
  refine fed_call (s := { s1 with heap := s1.heap.push (revObj a ((its.toArray.size : Int) - 1)) }) (T := "list_reverseiterator") ((Walks.listRev (A := X.A.in1.in1) hcalm s1.heap.objs.size a hne its.toArray).toS) (Heap.IsRevIter.typeIs (s := { s1 with heap := s1.heap.push (revObj a ((its.toArray.size : Int) - 1)) }) hit) (by decide) (by decide)
    (fun s' Q E _ ty k => hint_rev (l := a) (i := 0) ty (k false s'.toks (Nat.le_refl _))) ⟨Nat.zero_le _, by rw [e0]; exact hit, hl.push _⟩ (fun b hb => ?_) (by simp) hn fun s' acc' c' m hS' ha => ?_
  · rw [sz]
    rcases List.mem_cons.mp hb with rfl | hb
    · exact Nat.lt_succ_self _
    · obtain rfl := List.mem_singleton.mp hb
      exact Nat.lt_succ_of_lt (Heap.lt_size hol)
  · rw [Moved.eq_with m]
    rw [sz] at m hS' ⊢
    have keep : ∀ b o, s1.heap.get? b = some o → s'.heap.get? b = some o := fun b o e => by
      have lt := Heap.lt_size e
      refine m.heap b o (fun hm => ?_) (Heap.get?_push_of_some _ (up b o e))
      rcases List.mem_cons.mp hm with z | z
      · have z : b = s1.heap.objs.size + 1 := z
        rw [z] at lt
        exact absurd lt (by simp only [Nat.not_lt]; exact Nat.le_succ _)
      · have z : b = s1.heap.objs.size := List.mem_singleton.mp z
        rw [z] at lt
        exact absurd lt (Nat.lt_irrefl _)
    refine ⟨.ref _, upd H1 (s1.heap.objs.size + 1) (.lst xs.reverse), I1.laid (t' := s'.toks) keep (Nat.le_succ _) ⟨by rw [List.length_reverse]; exact hz, acc'.toList, c', RT.vals_rev rv ha, ?_⟩, rfl, q _ (I1.hok.fresh (Nat.le_succ _))⟩
    rw [Array.toArray_toList]
    exact hS'
end
section
variable {X : Cv}
/-- list(reversed(xs)) -/
theorem ve_listRev {e : Expr} {r : Option Nat} {t : VTE} {p p2 pos pos2 : Pos} (hc : X.calm = true) (hg : Gl X.toCx "list") (hm : X.mg "list" = none) (hg2 : Gl X.toCx "reversed") (hm2 : X.mg "reversed" = none) (h : VG X e r t)
    (hs : starEach [e] X.env = (false, eval e X.env) :: starEach [] X.env := by rfl)
    (hs2 : starEach [.Call (.Name "reversed" p2) [e] [] pos2] X.env = (false, eval (.Call (.Name "reversed" p2) [e] [] pos2) X.env) :: starEach [] X.env := by rfl) :
    VE X (.Call (.Name "list" p) [.Call (.Name "reversed" p2) [e] [] pos2] [] pos) (vOp sRev [r] (va1 t)) := by
  obtain ⟨t', a1, a2⟩ := h.ex
  refine ⟨fun W => tRevL X.K (t' W), fun W tk => pe_listRev hc hg hm hg2 hm2 (a1 W tk) hs hs2, fun b σ H ε T Tv W N Q Q' I q k x => ?_⟩
  refine a2 b σ H ε T Tv W N _ _ I q (fun d v ε1 H1 J hd z => ?_) x
  have op : OpN X.K (fun vs H Q => ∃ x, vs = [x] ∧ ∃ a xs, x = .ref a ∧ SqL X.K H a xs ∧ ∀ p, H p = none → Q (.ref p) (upd H p (.lst xs.reverse))) sRev := OpN.mk fun G H ds vs F Q Q' hs r q k => by
    obtain ⟨m, xs, rfl, hf, q⟩ := q
    obtain ⟨v, rfl, rx⟩ := r.one'
    have hx : ∃ a us, v = .ref a ∧ SqL X.K H a us ∧ RpL X.K G H xs us [] := by
      cases m with
      | false => obtain ⟨a, us, e, s, _, r⟩ := rx; exact ⟨a, us, e, hs.sqL s, r⟩
      | true => obtain ⟨a, us, F', e, s, _, r⟩ := rx; have := r.fz hf; subst this; exact ⟨a, us, e, SqL.of s, r⟩
    obtain ⟨a, us, rfl, s, rl⟩ := hx
    exact ⟨_, rfl, a, us, rfl, s, fun p hp => k _ _ _ (.lst rl.rev hp) q⟩
  obtain ⟨v', e', z'⟩ := op.run (ds := [d]) (vs := [v]) (rs := [r]) (Q := Q) (Q' := Q') I.lenT rfl J hd z k
  obtain ⟨rfl, _⟩ := List.cons.inj e'
  exact z'
/-- len(set(xs)), xs ints, none twice -/
def sLenSet : List D → (D → Prop) → Prop := fun ds Q => ∃ m xs, ∃ ns : List Int, ds = [.lst m xs] ∧ xs = ns.map D.int ∧ ns.Nodup ∧ ns.length ≤ 4000 ∧ Q (.int (ns.length : Nat))
theorem ve_lenSet {e : Expr} {r : Option Nat} {t : VTE} {p p2 q pos : Pos} (hc : X.calm = true) (hg : Gl X.toCx "len") (hm : X.mg "len" = none) (hg2 : Gl X.toCx "set") (hm2 : X.mg "set" = none) (h : VG X e r t)
    (na : starEach [e] X.env = (false, eval e X.env) :: starEach [] X.env := by rfl) : VE X (.Call (.Name "len" p) [.Call (.Name "set" p2) [e] [] q] [] pos) (vOp sLenSet [r] (va1 t)) := by
  obtain ⟨t', a1, a2⟩ := h.ex
  refine ⟨fun W => RZ.tLenSetI X.K (t' W), fun W tk => RZ.pe_lenSetI hg hm hg2 hm2 (a1 W tk) hc na, fun b σ H ε T Tv W N Q Q' I q k x => ?_⟩
  refine a2 b σ H ε T Tv W N _ _ I q (fun d v ε1 H1 J hd z => ?_) x
  have op : OpN X.K (fun vs H Q => ∃ x, vs = [x] ∧ ∃ (l : Addr) (ns : List Int), x = .ref l ∧ SqL X.K H l (ns.map V.int) ∧ ns.Nodup ∧ ns.length ≤ 4000 ∧ Q (.int (ns.length : Nat)) H) sLenSet := OpN.pure fun G H ds vs F Q Q' hs r q k => by
    obtain ⟨m, xs, ns, rfl, rfl, h1, h2, q⟩ := q
    obtain ⟨v, rfl, rx⟩ := r.one'
    have hx : ∃ a us F', v = .ref a ∧ SqL X.K H a us ∧ RpL X.K G H (ns.map D.int) us F' := by
      cases m with
      | false => obtain ⟨a, us, e, s, _, r⟩ := rx; exact ⟨a, us, _, e, hs.sqL s, r⟩
      | true => obtain ⟨a, us, F', e, s, _, r⟩ := rx; exact ⟨a, us, _, e, SqL.of s, r⟩
    obtain ⟨a, us, F', rfl, s, r⟩ := hx
    rw [ints_vs r] at s
    exact ⟨_, rfl, a, ns, rfl, s, h1, h2, k (.int _) _ (fun _ _ _ => ⟨rfl, rfl⟩) q⟩
  obtain ⟨v', e', z'⟩ := op.run (ds := [d]) (vs := [v]) (rs := [r]) (Q := Q) (Q' := Q') I.lenT rfl J hd z k
  obtain ⟨rfl, _⟩ := List.cons.inj e'
  exact z'
/-- {name: constant} -/
def vDisp1 (i : Nat) (c : D) : VTE := fun _ ε Q => ∃ z : Int, ε[i]? = some (some (.int z)) ∧ Q (.dK true [.inl z] [c]) ε
theorem ve_disp1 {x : Str} {i : Nat} {e : Expr} {c : D} {cv : V} {p pos : Pos} (hN : X.N[i]? = some x) (hv : Vis X.env.scope x) (he : PE X.toCx e (tC cv)) (rc : ∀ G H, Rp X.K G H c cv []) (hd : (x == ("__debug__" : Str)) = false := by decide) (hcd : (x == ("__classdict__" : Str)) = false := by decide) :
    VE X (.Dict [some (.Name x p)] [e] pos) (vDisp1 i c) := by
  refine ⟨fun W => tDisp [(tVar i, tC cv)], fun W tk => pe_disp (pps_cons (pe_var hN hv hd hcd) he pps_nil) rfl rfl (by simp) (by simp), fun b σ H ε T Tv W N Q Q' I q k x => ?_⟩
  obtain ⟨z, e0, q⟩ := q
  obtain ⟨v, hs, J⟩ := I.var e0 rfl
  obtain ⟨G, F, su, rv, _⟩ := J.last I.lenT
  subst rv
  intro p0 hp
  refine ⟨_, hs, ?_⟩
  refine ⟨upd_same, [(Sum.inl z, cv)], rfl, by simp, ?_⟩
  rw [upd_upd]
  exact k _ _ ε _ (SI.laid (I.push fun G => rc G H) I.lenT hp (.dK _) (fun G H' F e r => (show Rp X.K G H' (.dK true [.inl z] [c]) _ _ from ⟨_, [cv], F, rfl, e, rfl, rfl, by simp, r⟩))) q
end
end VL
/-! VL33: dicts of numbers; ways found step by step. -/
namespace VL
open PySem PySem.Spec PyProof.Rows L2 VL
def natK (ks : List Nat) : List Kc := ks.map fun k : Nat => Sum.inl (k : Int)
theorem kIx_nat : ∀ {ks : List Nat} {k : Nat}, kIx (natK ks) (.inl (k : Int)) = if k ∈ ks then some (ks.idxOf k) else none
  | [], k => rfl
  | a :: ks, k => by
    show (if (Sum.inl (a : Int) : Kc) = .inl (k : Int) then some 0 else (kIx (natK ks) (.inl (k : Int))).map (· + 1)) = _
    rw [kIx_nat, List.idxOf_cons]
    by_cases e : a = k
    · subst e
      rw [if_pos rfl, if_pos (by simp)]
      simp
    · have e2 : ¬((Sum.inl (a : Int) : Kc) = .inl (k : Int)) := fun z => e (by have := Sum.inl.inj z; omega)
      have e3 : (a == k) = false := by rw [beq_eq_false_iff_ne]; exact e
      rw [if_neg e2, e3]
      by_cases h : k ∈ ks
      · rw [if_pos h, if_pos (List.mem_cons_of_mem _ h)]
        rfl
      · rw [if_neg h, if_neg (by rw [List.mem_cons]; exact fun z => z.elim (fun z => e z.symm) h)]
        rfl
theorem natK_app {ks : List Nat} {k : Nat} : natK ks ++ [Sum.inl (k : Int)] = natK (ks ++ [k]) := by unfold natK; simp
theorem mem_natK {m : Bool} {ks : List Nat} {k : Nat} {ds : List D} : memD (.int (k : Int)) (.dK m (natK ks) ds) = some (decide (k ∈ ks)) := by
  show some ((kIx (natK ks) (.inl (k : Int))).isSome) = _
  rw [kIx_nat]
  split <;> simp_all
theorem vmem_natK {m : Bool} {ks : List Nat} {k : Nat} {ds : List D} {P : Bool → Prop} : (∃ r, memD (.int (k : Int)) (.dK m (natK ks) ds) = some r ∧ P r) ↔ P (decide (k ∈ ks)) := by
  rw [mem_natK]
  exact ⟨fun ⟨_, e, p⟩ => by cases e; exact p, fun p => ⟨_, rfl, p⟩⟩
/-- names of nodes, each with the one that it was come to from -/
abbrev Came := List (Nat × Option Nat)
def Came.keys (ps : Came) : List Nat := ps.map (·.1)
def Came.vals (ps : Came) : List D := ps.map fun p => optD p.2
def cameD (m : Bool) (ps : Came) : D := .dK m (natK ps.keys) ps.vals
theorem vals_fz (ps : Came) : isFzL ps.vals = true := by rw [isFzL_all]; simp [Came.vals, optD_fz]
theorem vals_frz (ps : Came) : frzL ps.vals = ps.vals := frzL_id (vals_fz ps)
theorem vals_len (ps : Came) : ps.vals.length = ps.length := by simp [Came.vals]
theorem keys_len (ps : Came) : ps.keys.length = ps.length := by simp [Came.keys]
theorem came_at {m : Bool} : ∀ {ps : Came} {k : Nat} {x : Option Nat}, ps.keys.Nodup → (k, x) ∈ ps → ixD (cameD m ps) (.int (k : Int)) = some (optD x)
  | [], _, _, _, h => by cases h
  | (a, y) :: ps, k, x, nd, h => by
    obtain ⟨n1, n2⟩ := List.nodup_cons.mp nd
    show ((kIx (natK (Came.keys ((a, y) :: ps))) (.inl (k : Int))).bind fun j => (Came.vals ((a, y) :: ps))[j]?) = _
    rw [kIx_nat]
    by_cases e : a = k
    · subst e
      have : (a, x) = (a, y) := by
        rcases List.mem_cons.mp h with h | h
        · exact h
        · exact absurd (List.mem_map.mpr ⟨_, h, rfl⟩) n1
      cases this
      rw [if_pos (by simp [Came.keys])]
      simp [Came.keys, Came.vals]
    · have h2 : (k, x) ∈ ps := by
        rcases List.mem_cons.mp h with h | h
        · cases h; exact absurd rfl e
        · exact h
      have ih := came_at (m := m) n2 h2
      have ih : ((kIx (natK (Came.keys ps)) (.inl (k : Int))).bind fun j => (Came.vals ps)[j]?) = some (optD x) := ih
      rw [kIx_nat] at ih
      have hk : k ∈ Came.keys ps := List.mem_map.mpr ⟨_, h2, rfl⟩
      rw [if_pos hk] at ih
      rw [if_pos (show k ∈ Came.keys ((a, y) :: ps) from List.mem_cons_of_mem _ hk)]
      show (Came.vals ((a, y) :: ps))[(a :: Came.keys ps).idxOf k]? = _
      rw [List.idxOf_cons]
      have e3 : (a == k) = false := by rw [beq_eq_false_iff_ne]; exact e
      rw [e3]
      exact ih
theorem came_put {ps : Came} {k : Nat} {x : Option Nat} (h : k ∉ ps.keys) (hl : ps.length < 1000000) : putD (cameD true ps) (.int (k : Int)) (optD x) = some (cameD true (ps ++ [(k, x)])) := by
  show (if ps.vals.length < 1000000 then (some (Sum.inl (k : Int) : Kc)).map (fun k => match kIx (natK ps.keys) k with | some j => D.dK true (natK ps.keys) (ps.vals.set j (optD x)) | none => .dK true (natK ps.keys ++ [k]) (ps.vals ++ [optD x])) else none) = _
  rw [if_pos (by rw [vals_len]; exact hl)]
  show some (match kIx (natK ps.keys) (Sum.inl (k : Int)) with | some j => D.dK true (natK ps.keys) (ps.vals.set j (optD x)) | none => .dK true (natK ps.keys ++ [Sum.inl (k : Int)]) (ps.vals ++ [optD x])) = _
  rw [kIx_nat, if_neg h, natK_app]
  unfold cameD
  simp [Came.keys, Came.vals]
/-! ### the way back along these -/
inductive Trl (ps : Came) : Nat → List Nat → Prop
  | root {k : Nat} : (k, none) ∈ ps → Trl ps k [k]
  | up {k p : Nat} {l : List Nat} : (k, some p) ∈ ps → Trl ps p l → Trl ps k (l ++ [k])
/-- reached from st on nodes outside bs -/
inductive RchB (f : Nat → List Nat) (bs : List Nat) (st : Nat) : Nat → Prop
  | start : st ∉ bs → RchB f bs st st
  | step {k t : Nat} : RchB f bs st k → t ∈ f k → t ∉ bs → RchB f bs st t
theorem rchB_one {f : Nat → List Nat} {o k : Nat} : RchB f [o] 0 k ↔ Rch f o k := by
  constructor
  · intro h
    induction h with
    | start h => exact .zero (fun z => h (by simp [z]))
    | step _ a b ih => exact .step ih a (fun z => b (by simp [z]))
  · intro h
    induction h with
    | zero h => exact .start (fun z => h (by simp at z; exact z.symm))
    | step _ a b ih => exact .step ih a (fun z => b (by simp at z; exact z))
theorem RchB.not {f : Nat → List Nat} {bs : List Nat} {st k : Nat} (h : RchB f bs st k) : k ∉ bs := by cases h <;> assumption
theorem RchB.st {f : Nat → List Nat} {bs : List Nat} {st k : Nat} (h : RchB f bs st k) : st ∉ bs := by
  induction h with
  | start h => exact h
  | step _ _ _ ih => exact ih
/-- a way: its first, its last, steps, none twice -/
structure WayOk (f : Nat → List Nat) (bs : List Nat) (st k : Nat) (l : List Nat) : Prop where
  hd : l.head? = some st
  lst : l.getLast? = some k
  nd : l.Nodup
  stp : ∀ (i a b : Nat), l[i]? = some a → l[i + 1]? = some b → b ∈ f a
  out : ∀ x ∈ l, x ∉ bs
structure BfI (f : Nat → List Nat) (n : Nat) (st : Nat) (ws bs : List Nat) (ps : Came) (at_ : Nat) : Prop where
  nd : ps.keys.Nodup
  rng : ∀ k ∈ ps.keys, k < n
  root : ps.head? = some (st, none)
  par : ∀ (i k p : Nat), ps[i]? = some (k, some p) → ∃ j x, j < i ∧ ps[j]? = some (p, x) ∧ k ∈ f p
  one : ∀ (i k : Nat), ps[i]? = some (k, none) → i = 0
  out : ∀ k ∈ ps.keys, k ∉ bs
  le : at_ ≤ ps.length
  nw : ∀ (i k : Nat) x, i < at_ → ps[i]? = some (k, x) → k ∉ ws
  dn : ∀ (i k : Nat) x, i < at_ → ps[i]? = some (k, x) → ∀ t ∈ f k, t ∉ bs → t ∈ ps.keys
section
variable {f : Nat → List Nat} {n st : Nat} {ws bs : List Nat} {ps : Came} {at_ : Nat}
/-- each has its way, on those that came ahead of it -/
theorem BfI.trail (I : BfI f n st ws bs ps at_) : ∀ (i k : Nat) x, ps[i]? = some (k, x) → ∃ l, Trl ps k l ∧ WayOk f bs st k l ∧ (∀ y ∈ l, ∃ j z, j ≤ i ∧ ps[j]? = some (y, z)) ∧ l.length ≤ i + 1 := by
  intro i
  induction i using Nat.strongRecOn with
  | ind i ih =>
    intro k x h
    have hm : (k, x) ∈ ps := List.mem_of_getElem? h
    cases x with
    | none =>
      have := I.one i k h
      subst this
      have hr := I.root
      rw [List.head?_eq_getElem?, h] at hr
      have hr : k = st := by cases hr; rfl
      subst hr
      refine ⟨[k], .root hm, ⟨rfl, rfl, by simp, fun i a b _ h2 => by simp at h2, fun y hy => ?_⟩, fun y hy => ?_, by simp⟩
      · simp at hy; subst hy; exact I.out y (List.mem_map.mpr ⟨_, hm, rfl⟩)
      · simp at hy; subst hy; exact ⟨0, none, Nat.le_refl _, h⟩
    | some p =>
      obtain ⟨j, y, hj, hp, hk⟩ := I.par i k p h
      obtain ⟨l, t, w, on, ln⟩ := ih j hj p y hp
      have hkl : k ∉ l := fun z => by
        obtain ⟨j2, z2, h1, h2⟩ := on k z
        have hlt : i < ps.length := (List.getElem?_eq_some_iff.mp h).1
        have e : ps.keys[j2]'(by rw [keys_len]; omega) = ps.keys[i]'(by rw [keys_len]; omega) := by
          have a1 : ps.keys[j2]? = some k := by unfold Came.keys; rw [List.getElem?_map, h2]; rfl
          have a2 : ps.keys[i]? = some k := by unfold Came.keys; rw [List.getElem?_map, h]; rfl
          have a3 := (List.getElem?_eq_some_iff.mp a1).2
          have a4 := (List.getElem?_eq_some_iff.mp a2).2
          rw [a3, a4]
        have := nodup_get I.nd _ _ e
        omega
      refine ⟨l ++ [k], .up hm t, ⟨?_, by simp, List.nodup_append.mpr ⟨w.nd, by simp, fun a ha c hc e => by simp at hc; exact hkl (by rw [← hc, ← e]; exact ha)⟩, ?_, fun y hy => ?_⟩, fun y hy => ?_, by simp; omega⟩
      · cases l with
        | nil => cases w.hd
        | cons a l => exact w.hd
      · intro i2 a b h1 h2
        by_cases e : i2 + 1 < l.length
        · rw [List.getElem?_append_left (by omega)] at h1
          rw [List.getElem?_append_left e] at h2
          exact w.stp i2 a b h1 h2
        · have e2 : i2 + 1 = l.length := by
            have := (List.getElem?_eq_some_iff.mp h2).1
            simp at this
            omega
          rw [List.getElem?_append_left (by omega)] at h1
          rw [List.getElem?_append_right (by omega), e2, Nat.sub_self] at h2
          cases h2
          have hl := w.lst
          rw [List.getLast?_eq_getElem?, show l.length - 1 = i2 by omega, h1] at hl
          cases hl
          exact hk
      · rcases List.mem_append.mp hy with hy | hy
        · exact w.out y hy
        · simp at hy; subst hy; exact I.out y (List.mem_map.mpr ⟨_, hm, rfl⟩)
      · rcases List.mem_append.mp hy with hy | hy
        · obtain ⟨j2, z, h1, h2⟩ := on y hy
          exact ⟨j2, z, by omega, h2⟩
        · simp at hy; subst hy; exact ⟨i, _, Nat.le_refl _, h⟩
theorem BfI.fin (I : BfI f n st ws bs ps ps.length) {k : Nat} (h : RchB f bs st k) : k ∈ ps.keys ∧ k ∉ ws := by
  have mem : k ∈ ps.keys := by
    induction h with
    | start _ =>
      cases e : ps with
      | nil => have := I.root; rw [e] at this; cases this
      | cons p ps' => have := I.root; rw [e] at this; cases this; simp [Came.keys]
    | @step k t _ ht hb ih =>
      obtain ⟨p, hp, rfl⟩ := List.mem_map.mp ih
      obtain ⟨i, hi, e⟩ := List.mem_iff_getElem.mp hp
      exact I.dn i p.1 p.2 hi (by rw [List.getElem?_eq_getElem hi, e]) t ht hb
  refine ⟨mem, ?_⟩
  obtain ⟨p, hp, rfl⟩ := List.mem_map.mp mem
  obtain ⟨i, hi, e⟩ := List.mem_iff_getElem.mp hp
  exact I.nw i p.1 p.2 hi (by rw [List.getElem?_eq_getElem hi, e])
/-- what comes of the ways on of a node -/
def bf1 (bs : List Nat) (h : Nat) (ps : Came) (t : Nat) : Came := if t ∉ ps.keys ∧ t ∉ bs then ps ++ [(t, some h)] else ps
theorem keys_app {ps : Came} {k : Nat} {x : Option Nat} : Came.keys (ps ++ [(k, x)]) = ps.keys ++ [k] := by simp [Came.keys]
structure BfM (f : Nat → List Nat) (n : Nat) (st : Nat) (ws bs : List Nat) (ps0 ps : Came) (at_ : Nat) (h : Nat) (seen : List Nat) : Prop where
  I : BfI f n st ws bs ps at_
  pre : ∃ e, ps = ps0 ++ e
  hs : ∃ x, ps[at_]? = some (h, x)
  ok : ∀ t ∈ seen, t ∉ bs → t ∈ ps.keys
theorem BfM.step {h : Nat} {ps0 : Came} {seen : List Nat} (M : BfM f n st ws bs ps0 ps at_ h seen) {t : Nat} (ht : t ∈ f h) (hn : t < n) : BfM f n st ws bs ps0 (bf1 bs h ps t) at_ h (seen ++ [t]) := by
  unfold bf1
  split
  · rename_i hc
    obtain ⟨c1, c2⟩ := hc
    obtain ⟨x0, hx0⟩ := M.hs
    have hl := (List.getElem?_eq_some_iff.mp hx0).1
    have old : ∀ {i : Nat} {p : Nat × Option Nat}, ps[i]? = some p → (ps ++ [(t, some h)])[i]? = some p := fun {i p} e => by
      rw [List.getElem?_append_left (List.getElem?_eq_some_iff.mp e).1]; exact e
    have new : ∀ {i : Nat} {p : Nat × Option Nat}, (ps ++ [(t, some h)])[i]? = some p → ps[i]? = some p ∨ (i = ps.length ∧ p = (t, some h)) := fun {i p} e => by
      by_cases z : i < ps.length
      · rw [List.getElem?_append_left z] at e; exact .inl e
      · rw [List.getElem?_append_right (by omega)] at e
        have : i - ps.length = 0 := by
          have := (List.getElem?_eq_some_iff.mp e).1
          simp at this
          omega
        rw [this] at e
        cases e
        exact .inr ⟨by omega, rfl⟩
    refine ⟨⟨?_, fun k hk => ?_, ?_, fun i k p e => ?_, fun i k e => ?_, fun k hk => ?_, by simp; have := M.I.le; omega, fun i k x hi e => ?_, fun i k x hi e y hy hb => ?_⟩, ?_, ⟨x0, old hx0⟩, fun y hy hb => ?_⟩
    · rw [keys_app]
      exact List.nodup_append.mpr ⟨M.I.nd, by simp, fun a ha c hc e => by simp at hc; exact c1 (by rw [← hc, ← e]; exact ha)⟩
    · rw [keys_app] at hk
      rcases List.mem_append.mp hk with hk | hk
      · exact M.I.rng k hk
      · simp at hk; subst hk; exact hn
    · have := M.I.root
      cases ps with
      | nil => cases this
      | cons p ps => exact this
    · rcases new e with e | ⟨_, e'⟩
      · obtain ⟨j, x, h1, h2, h3⟩ := M.I.par i k p e
        exact ⟨j, x, h1, old h2, h3⟩
      · cases e'
        exact ⟨at_, x0, by omega, old hx0, ht⟩
    · rcases new e with e | ⟨_, e'⟩
      · exact M.I.one i k e
      · cases e'
    · rw [keys_app] at hk
      rcases List.mem_append.mp hk with hk | hk
      · exact M.I.out k hk
      · simp at hk; subst hk; exact c2
    · rcases new e with e | ⟨rfl, _⟩
      · exact M.I.nw i k x hi e
      · omega
    · rw [keys_app]
      rcases new e with e | ⟨rfl, _⟩
      · exact List.mem_append_left _ (M.I.dn i k x hi e y hy hb)
      · omega
    · obtain ⟨e, he⟩ := M.pre
      exact ⟨e ++ [(t, some h)], by rw [he, List.append_assoc]⟩
    · rw [keys_app]
      rcases List.mem_append.mp hy with hy | hy
      · exact List.mem_append_left _ (M.ok y hy hb)
      · simp at hy; subst hy; simp
  · rename_i hc
    refine ⟨M.I, M.pre, M.hs, fun y hy hb => ?_⟩
    rcases List.mem_append.mp hy with hy | hy
    · exact M.ok y hy hb
    · simp at hy; subst hy
      exact Classical.byContradiction fun z => hc ⟨z, hb⟩
theorem BfM.steps {h : Nat} {ps0 : Came} : ∀ {ts : List Nat} {ps : Came} {seen : List Nat}, BfM f n st ws bs ps0 ps at_ h seen → (∀ t ∈ ts, t ∈ f h ∧ t < n) → BfM f n st ws bs ps0 (ts.foldl (bf1 bs h) ps) at_ h (seen ++ ts)
  | [], ps, seen, M, _ => by simpa using M
  | t :: ts, ps, seen, M, ht => by
    have := (M.step (ht t List.mem_cons_self).1 (ht t List.mem_cons_self).2).steps (ts := ts) fun y hy => ht y (List.mem_cons_of_mem _ hy)
    rw [List.append_assoc] at this
    exact this
theorem BfM.next {h : Nat} {ps0 : Came} {seen : List Nat} (M : BfM f n st ws bs ps0 ps at_ h seen) (hw : h ∉ ws) (all : ∀ t ∈ f h, t ∈ seen) : BfI f n st ws bs ps (at_ + 1) := by
  obtain ⟨x0, hx0⟩ := M.hs
  have hl := (List.getElem?_eq_some_iff.mp hx0).1
  refine ⟨M.I.nd, M.I.rng, M.I.root, M.I.par, M.I.one, M.I.out, hl, fun i k x hi e => ?_, fun i k x hi e t ht hb => ?_⟩
  · by_cases z : i = at_
    · subst z; rw [hx0] at e; cases e; exact hw
    · exact M.I.nw i k x (by omega) e
  · by_cases z : i = at_
    · subst z; rw [hx0] at e; cases e; exact M.ok t (all t ht) hb
    · exact M.I.dn i k x (by omega) e t ht hb
theorem bf_start (hs : st < n) (hb : st ∉ bs) : BfI f n st ws bs [(st, none)] 0 := by
  refine ⟨by simp [Came.keys], fun k hk => by simp [Came.keys] at hk; omega, rfl, fun i k p e => ?_, fun i k e => ?_, fun k hk => by simp [Came.keys] at hk; subst hk; exact hb, Nat.zero_le _, fun i k x hi => absurd hi (Nat.not_lt_zero _), fun i k x hi => absurd hi (Nat.not_lt_zero _)⟩
  · cases i with
    | zero => cases e
    | succ i => simp at e
  · cases i with
    | zero => rfl
    | succ i => simp at e
end
theorem WayOk.rch {f : Nat → List Nat} {bs : List Nat} {st k : Nat} {l : List Nat} (w : WayOk f bs st k l) : RchB f bs st k := by
  have key : ∀ (i x : Nat), l[i]? = some x → RchB f bs st x := by
    intro i
    induction i with
    | zero =>
      intro x h
      have e := w.hd
      rw [List.head?_eq_getElem?, h] at e
      have e : x = st := Option.some.inj e
      subst e
      exact .start (w.out x (List.mem_of_getElem? h))
    | succ i ih =>
      intro x h
      have hi : i < l.length := by have := (List.getElem?_eq_some_iff.mp h).1; omega
      exact .step (ih _ (List.getElem?_eq_getElem hi)) (w.stp i _ x (List.getElem?_eq_getElem hi) h) (w.out x (List.mem_of_getElem? h))
  have hl := w.lst
  rw [List.getLast?_eq_getElem?] at hl
  exact key _ k hl
theorem came_fz {ps : Came} : isFz (cameD false ps) = true := by
  show (!false && isFzL ps.vals) = true
  rw [vals_fz]
  rfl
theorem came_frz {m : Bool} {ps : Came} : frz (cameD m ps) = cameD false ps := by
  show D.dK false (natK ps.keys) (frzL ps.vals) = _
  rw [vals_frz]
  rfl
theorem vmem_came {m : Bool} {ps : Came} {k : Nat} {P : Bool → Prop} : (∃ r, memD (.int (k : Int)) (cameD m ps) = some r ∧ P r) ↔ P (decide (k ∈ ps.keys)) := vmem_natK
theorem came_putS {ps : Came} {k h : Nat} (hk : k ∉ ps.keys) (hl : ps.length < 1000000) : putD (cameD true ps) (.int (k : Int)) (.int (h : Int)) = some (cameD true (ps ++ [(k, some h)])) := came_put (x := some h) hk hl
theorem came_one {k : Nat} : D.dK true [.inl (k : Int)] [.non] = cameD true [(k, none)] := rfl
theorem e_lenSet {m : Bool} {xs : List Nat} {Q : D → Prop} : sLenSet [.lst m (natsD xs)] Q ↔ xs.Nodup ∧ xs.length ≤ 4000 ∧ Q (.int (xs.length : Nat)) := by
  constructor
  · rintro ⟨_, _, ns, e, e2, h1, h2, q⟩
    cases e
    rw [natsD_ints] at e2
    have := ints_inj e2
    subst this
    refine ⟨?_, by simpa using h2, by simpa using q⟩
    exact List.Pairwise.imp (fun {a b} h e => h (by rw [e])) (List.pairwise_map.mp h1)
  · rintro ⟨h1, h2, q⟩
    refine ⟨m, _, _, rfl, natsD_ints xs, ?_, by simpa using h2, by simpa using q⟩
    exact List.pairwise_map.mpr (List.Pairwise.imp (fun {a b} h e => h (by have e : (a : Int) = (b : Int) := e; omega)) h1)
theorem cutL_last {α : Type} (xs : List α) : cutL xs none (some (-1)) = xs.dropLast := by
  unfold cutL
  have e1 : HT.sIx xs.length 0 none = 0 := rfl
  have e2 : HT.sIx xs.length xs.length (some (-1)) = xs.length - 1 := by
    show (if (-1 : Int) < 0 then ((-1 : Int) + (xs.length : Int)).toNat else min (-1 : Int).toNat xs.length) = _
    rw [if_pos (by decide)]
    omega
  rw [e1, e2, List.drop_zero, Nat.sub_zero, List.dropLast_eq_take]
theorem ixN_neg {n : Nat} (h : 0 < n) : ixN n (-1) = some (n - 1) := by
  unfold ixN
  rw [if_neg (by decide), if_pos (by omega)]
  congr 1
  omega
end VL
/-! VL34: sorted(set(xs)). -/
namespace VL
open PySem PySem.Spec PyProof.Rows L2 VL
abbrev nsO (w : World) : Obj := { cls := .type "set", dict := none, data := .set #[] 0 (.fresh 0 0 (!w.params.followText "set-order")) }
section
variable {P : Program} {w : World} {A : Around} {E : Value → Shared → Prop} {s : Shared}
theorem set_fed {l S : Addr} {items : Array Value} (ns : List Int) {R : Result → Shared → Prop} (hh : A.handled = none) (lst : s.heap.IsList l items) (allI : IntsAre items.toList ns) (hb : ns.length + 1 < scanBound) (hS : s.heap.get? S = some (nsO w)) (hSl : S ≠ l)
    (k : ∀ (h' : Heap) (tk c : Nat), SetR w h' S (fun j => decide (j ∈ ns)) c → c ≤ ns.length → (∀ b o, b ≠ S → s.heap.get? b = some o → h'.get? b = some o) → R (.ok (.ret .none)) { s with heap := h', toks := tk }) :
    codeAny (model P w) A (.builtin "set.update.loop" ⟨[.ref S, .ref s.heap.objs.size], []⟩) R { s with heap := s.heap.push { cls := .type "list_iterator", data := .fields #[.ref l, .int 0 0] } } := by
  obtain ⟨ol, hol, _⟩ := id lst
  have lt := Heap.lt_size hol
  have ltS := Heap.lt_size hS
  have sz : items.size = ns.length := by
    have q := IntsAre.length allI
    rw [Array.length_toList] at q
    exact q
  have at_ : ∀ (i : Nat) (v : Value), items[i]? = some v → ∃ k t, ns[i]? = some k ∧ v = .int k t := fun i v hv => by
    have hi : i < ns.length := by rw [← sz]; exact (Array.getElem?_eq_some_iff.mp hv).1
    obtain ⟨t, e⟩ := PyProof.Rows.IntsAre.int_at allI i v (by rw [Array.getElem?_toList]; exact hv)
    exact ⟨ns[i], t, List.getElem?_eq_getElem hi, by rw [e, List.getD_eq_getElem?_getD, List.getElem?_eq_getElem hi]; rfl⟩
  have up : ∀ b o, s.heap.get? b = some o → (s.heap.push { cls := .type "list_iterator", data := .fields #[.ref l, .int 0 0] }).get? b = some o := fun b o e => Heap.get?_push_of_some _ e
  refine set_update_ints ((Walks.list (A := A.in1) (by simpa using hh) s.heap.objs.size l (Nat.ne_of_lt lt) items).toS) S (by simp only [List.mem_cons, List.not_mem_nil, or_false, not_or]; exact ⟨Nat.ne_of_lt ltS, hSl⟩) ns sz hb at_ items.size 0 _ (by omega) (Nat.zero_le _)
    ⟨⟨_, Heap.get?_push_size _ rfl, rfl, rfl⟩, lst.push _⟩ ⟨0, Nat.le_refl 0, setR_new_at (up S _ hS)⟩ fun s' c m hc hR => ?_
  rw [Moved.eq_with m]
  refine k s'.heap s'.toks c hR (by omega) fun b o hb e => m.heap b o (fun hm => ?_) (up b o e)
  rcases List.mem_cons.mp hm with z | z
  · exact hb z
  · have z : b = s.heap.objs.size := List.mem_singleton.mp z
    have := Heap.lt_size e
    rw [z] at this
    exact absurd this (Nat.lt_irrefl _)
theorem set_list {l : Addr} {items : Array Value} (ns : List Int) {Q : Value → Shared → Prop} (hh : A.handled = none) (lst : s.heap.IsList l items) (allI : IntsAre items.toList ns) (hb : ns.length + 1 < scanBound)
    (k : ∀ (h' : Heap) (tk c : Nat), SetR w h' s.heap.objs.size (fun j => decide (j ∈ ns)) c → c ≤ ns.length → (∀ b o, s.heap.get? b = some o → h'.get? b = some o) → Q (.ref s.heap.objs.size) { s with heap := h', toks := tk }) :
    wpAny (model P w) A (call (.type "set") [.ref l]) Q E s := by
  obtain ⟨mc, mtl, hmro⟩ := F.called_set.mro
  have hmade := F.called_set.made
  have hsub := F.called_set.sub
  refine wpAny_call (codeAny_of_tree ?_)
  show wpAny _ _ (callAny (.type "set") _) _ _ _
  refine wpAny_pure ⟨Code.quiet_builtin _ (by decide +kernel), codeAny_builtin F.entry_type_call ?_⟩
  rw [Around.under_plain (weight_type_call_type "set" [.ref l] []) rfl]
  have n1 := F.called_set.notType
  have n2 := F.called_set.canCreate
  have n3 := F.typeCall_set_1 (.ref l)
  repeat (any_goals (first | assumption | wp_step))
  refine codeAny_mono (code_set_led1 (.ref l) (E := E) (Q₁ := fun obj s₁ => obj = .ref s.heap.objs.size ∧ s₁ = { s with heap := s.heap.push (nsO w) }) ⟨rfl, rfl⟩) fun r s₁ hr => ?_
  cases r with
  | error e => exact hr
  | ok fl =>
    cases fl with
    | ret obj =>
      obtain ⟨rfl, rfl⟩ := hr
      have hS : (s.heap.push (nsO w)).get? s.heap.objs.size = some (nsO w) := Heap.get?_push_size _ rfl
      have tS : Shared.TypeIs { s with heap := s.heap.push (nsO w) } (.ref s.heap.objs.size) "set" := ⟨_, hS, rfl⟩
      have n4 := F.called_set.init.lookup
      have n5 := F.called_set.init.bind (.ref s.heap.objs.size)
      repeat (any_goals (first | assumption | wp_step))
      refine codeAny_mono (codeAny_call_builtin (R := wants (fun r s₂ => r = .none ∧ ∃ h' tk c, s₂ = { s with heap := h', toks := tk } ∧ SetR w h' s.heap.objs.size (fun j => decide (j ∈ ns)) c ∧ c ≤ ns.length ∧ (∀ b o, s.heap.get? b = some o → h'.get? b = some o)) E) F.called_set.init.plain F.entry_set_init (check_set_init_1 tS ?_)) fun r₂ s₂ hr₂ => ?_
      · obtain ⟨ol, hol, hcl, nl, hdl⟩ := id lst
        have lt := Heap.lt_size hol
        obtain ⟨o1, o2, o3, o4⟩ := ol
        simp only at hcl hdl
        subst hcl hdl
        have hol2 : (s.heap.push (nsO w)).get? l = some { cls := .type "list", dict := o2, data := .seq items nl, slots := o4 } := Heap.get?_push_of_some _ hol
        have n6 := F.sub_list_set
        have n7 := F.sub_list_frozenset
        have n8 : (Value.type "list" == Value.type "dict") = false := by decide
        have lst2 : (s.heap.push (nsO w)).IsList l items := ⟨_, hol2, rfl, nl, rfl⟩
        unfold Builtin.«set.__init__» noKeywords Builtin.Frozenset.updateFrom
        generalize hpi : pyIter = piF
        wp_walk
        subst hpi
        refine wpAny_pyIter_list lst2 (wpAny_bind (wpAny_runValue ?_))
        refine set_fed (s := { s with heap := s.heap.push (nsO w) }) ns (by simp [hh]) lst2 allI hb hS (Nat.ne_of_gt lt) fun h' tk c hR hc keep => ?_
        show wpAny _ _ _ _ _ _
        refine wpAny_pure ?_
        show wpAny _ _ (ret Value.none) _ _ _
        exact wpAny_pure ⟨rfl, h', tk, c, rfl, hR, hc, fun b o e => keep b o (fun z => absurd (Heap.lt_size e) (by rw [z]; exact Nat.lt_irrefl _)) (Heap.get?_push_of_some _ e)⟩
      · cases r₂ with
        | error e => exact hr₂
        | ok fl₂ =>
          cases fl₂ with
          | ret r =>
            obtain ⟨rfl, h', tk, c, rfl, hR, hc, hk⟩ := hr₂
            repeat (any_goals (first | assumption | wp_step))
            exact k _ _ _ hR hc hk
          | _ => exact hr₂.elim
    | _ => exact hr.elim
end
end VL
/-! VL35: sorted(set(xs)), told over trees. -/
namespace VL
open PySem PySem.Spec PyProof.Rows L2 VL
def tSortSet (K : PySem.W.Frag) (te : TE) : TE := fun σ H Q => te σ H fun v H1 => ∃ (a : Addr) (ns : List Int), v = .ref a ∧ SqL K H1 a (ns.map V.int) ∧ ns.length < 64 ∧
  ∀ (ms : List Int) (p : Addr), ms.Pairwise (· < ·) → (∀ k, k ∈ ms ↔ k ∈ ns) → H1 p = none → Q (.ref p) (upd H1 p (.lst (ms.map V.int)))
theorem pe_sortSet {X : Cx} {e : Expr} {te : TE} {p p2 pos pos2 : Pos} (hc : X.calm = true) (hg : Gl X "sorted") (hm : X.mg "sorted" = none) (hg2 : Gl X "set") (hm2 : X.mg "set" = none) (he : PE X e te)
    (hs : starEach [e] X.env = (false, eval e X.env) :: starEach [] X.env := by rfl)
    (hs2 : starEach [.Call (.Name "set" p2) [e] [] pos2] X.env = (false, eval (.Call (.Name "set" p2) [e] [] pos2) X.env) :: starEach [] X.env := by rfl) :
    PE X (.Call (.Name "sorted" p) [.Call (.Name "set" p2) [e] [] pos2] [] pos) (tSortSet X.K te) := by
  refine ⟨fun pins s σ H Q I h => ?_⟩
  refine Call_ (ld_blt I hg hm boot_sorted (PyProof.Rows.callWith_builtin1 (PyProof.Rows.args_cons (Call_ (ld_blt I hg2 hm2 PyProof.Rows.boot_set (PyProof.Rows.callWith_type1 (PyProof.Rows.args_cons (thn (he.run pins s σ H _ I h) fun u s1 ⟨v, H1, I1, r1, q1⟩ => PyProof.Rows.args_nil ?_) hs) hs rfl))) hs2) hs2 rfl))
  obtain ⟨a, ns, ev, hq, hl, q⟩ := q1
  subst ev
  obtain rfl : u = Value.ref a := r1
  obtain ⟨its, rv, pl, hz⟩ := I1.list hq
  have hcalm := I1.ok.hd hc
  refine set_list ns hcalm pl.isList (by simpa using ints_of_vals rv) (by unfold scanBound; omega) fun h' tk c hR hcn keep => PyProof.Rows.args_nil ?_
  refine sorted_set (s := { s1 with heap := h', toks := tk }) hR hcalm (by omega) fun s' p0 out c2 ms k1 g1 o1 hp0 hget hout hpw hmem hlen => ?_
  have all : ∀ b o, s1.heap.get? b = some o → s'.heap.get? b = some o := fun b o e => k1 b o (keep b o e)
  have lt0 : s1.heap.objs.size ≤ p0 := by
    obtain ⟨os, es, ep, t, ho, _⟩ := hR
    have h1 : s1.heap.objs.size < h'.objs.size := Heap.lt_size ho
    exact Nat.le_trans (Nat.le_of_lt h1) hp0
  have hml : ms.length ≤ sizeLine := by
    have h64 : (64 : Nat) ≤ sizeLine := by decide
    omega
  refine ⟨.ref _, upd H1 p0 (.lst (ms.map V.int)), I1.call' (ch := []) o1 (Un.laid all lt0 (I1.hok.fresh lt0)) (I1.hok.laid all lt0 ⟨by rw [List.length_map]; exact hml, out.toList, c2, vals_of_ints hout, ?_⟩) (by rw [g1]; exact I1.bare) (fun _ z => nomatch z), rfl, q ms p0 hpw (fun k => by rw [hmem k, decide_eq_true_eq]) (I1.hok.fresh lt0)⟩
  rw [Array.toArray_toList]
  exact hget
/-- sorted(set(xs)) -/
def sSortSet : List D → (D → Prop) → Prop := fun ds Q => ∃ m xs, ∃ ns : List Int, ds = [.lst m xs] ∧ xs = ns.map D.int ∧ ns.length < 64 ∧ ∀ ms : List Int, ms.Pairwise (· < ·) → (∀ k, k ∈ ms ↔ k ∈ ns) → Q (.lst true (ms.map D.int))
section
variable {X : Cv}
theorem ve_sortSet {e : Expr} {r : Option Nat} {t : VTE} {p p2 pos pos2 : Pos} (hc : X.calm = true) (hg : Gl X.toCx "sorted") (hm : X.mg "sorted" = none) (hg2 : Gl X.toCx "set") (hm2 : X.mg "set" = none) (h : VG X e r t)
    (hs : starEach [e] X.env = (false, eval e X.env) :: starEach [] X.env := by rfl)
    (hs2 : starEach [.Call (.Name "set" p2) [e] [] pos2] X.env = (false, eval (.Call (.Name "set" p2) [e] [] pos2) X.env) :: starEach [] X.env := by rfl) :
    VE X (.Call (.Name "sorted" p) [.Call (.Name "set" p2) [e] [] pos2] [] pos) (vOp sSortSet [r] (va1 t)) := by
  obtain ⟨t', a1, a2⟩ := h.ex
  refine ⟨fun W => tSortSet X.K (t' W), fun W tk => pe_sortSet hc hg hm hg2 hm2 (a1 W tk) hs hs2, fun b σ H ε T Tv W N Q Q' I q k x => ?_⟩
  refine a2 b σ H ε T Tv W N _ _ I q (fun d v ε1 H1 J hd z => ?_) x
  have op : OpN X.K (fun vs H Q => ∃ x, vs = [x] ∧ ∃ (a : Addr) (ns : List Int), x = .ref a ∧ SqL X.K H a (ns.map V.int) ∧ ns.length < 64 ∧
      ∀ (ms : List Int) (p : Addr), ms.Pairwise (· < ·) → (∀ k, k ∈ ms ↔ k ∈ ns) → H p = none → Q (.ref p) (upd H p (.lst (ms.map V.int)))) sSortSet := OpN.mk fun G H ds vs F Q Q' hs r q k => by
    obtain ⟨m, xs, ns, rfl, rfl, h1, q⟩ := q
    obtain ⟨v, rfl, rx⟩ := r.one'
    have hx : ∃ a us F', v = .ref a ∧ SqL X.K H a us ∧ RpL X.K G H (ns.map D.int) us F' := by
      cases m with
      | false => obtain ⟨a, us, e, s, _, r⟩ := rx; exact ⟨a, us, _, e, hs.sqL s, r⟩
      | true => obtain ⟨a, us, F', e, s, _, r⟩ := rx; exact ⟨a, us, _, e, SqL.of s, r⟩
    obtain ⟨a, us, F', rfl, s, r⟩ := hx
    rw [ints_vs r] at s
    exact ⟨_, rfl, a, ns, rfl, s, h1, fun ms p hpw hmem hp => k _ _ _ (.lst (ints_rp ms) hp) (q ms hpw hmem)⟩
  obtain ⟨v', e', z'⟩ := op.run (ds := [d]) (vs := [v]) (rs := [r]) (Q := Q) (Q' := Q') I.lenT rfl J hd z k
  obtain ⟨rfl, _⟩ := List.cons.inj e'
  exact z'
end
/-- the numbers of a list, each once, rising -/
def asc (xs : List Nat) (n : Nat) : List Nat := (List.range n).filter fun k => decide (k ∈ xs)
theorem mem_asc {xs : List Nat} {n k : Nat} (h : ∀ x ∈ xs, x < n) : k ∈ asc xs n ↔ k ∈ xs := by
  unfold asc
  rw [List.mem_filter, List.mem_range, decide_eq_true_iff]
  exact ⟨fun z => z.2, fun z => ⟨h k z, z⟩⟩
theorem asc_pw (xs : List Nat) (n : Nat) : (asc xs n).Pairwise (· < ·) := List.Pairwise.filter _ List.pairwise_lt_range
theorem pw_uniq : ∀ {xs ys : List Int}, xs.Pairwise (· < ·) → ys.Pairwise (· < ·) → (∀ k, k ∈ xs ↔ k ∈ ys) → xs = ys
  | [], [], _, _, _ => rfl
  | [], y :: ys, _, _, h => absurd ((h y).mpr List.mem_cons_self) (by simp)
  | x :: xs, [], _, _, h => absurd ((h x).mp List.mem_cons_self) (by simp)
  | x :: xs, y :: ys, h1, h2, h => by
    obtain ⟨a1, a2⟩ := List.pairwise_cons.mp h1
    obtain ⟨b1, b2⟩ := List.pairwise_cons.mp h2
    have e : x = y := by
      have m1 := (h x).mp List.mem_cons_self
      have m2 := (h y).mpr List.mem_cons_self
      rcases List.mem_cons.mp m1 with e | m1
      · exact e
      · rcases List.mem_cons.mp m2 with e | m2
        · exact e.symm
        · have := a1 y m2; have := b1 x m1; omega
    subst e
    congr 1
    refine pw_uniq a2 b2 fun k => ⟨fun hk => ?_, fun hk => ?_⟩
    · rcases List.mem_cons.mp ((h k).mp (List.mem_cons_of_mem _ hk)) with e | m
      · subst e; have := a1 k hk; omega
      · exact m
    · rcases List.mem_cons.mp ((h k).mpr (List.mem_cons_of_mem _ hk)) with e | m
      · subst e; have := b1 k hk; omega
      · exact m
theorem e_sortSet {m : Bool} {xs : List Nat} {n : Nat} {Q : D → Prop} (h : ∀ x ∈ xs, x < n) (hl : xs.length < 64) (q : Q (.lst true (natsD (asc xs n)))) : sSortSet [.lst m (natsD xs)] Q := by
  refine ⟨m, _, _, rfl, natsD_ints xs, by simpa using hl, fun ms hpw hmem => ?_⟩
  have : ms = (asc xs n).map fun k : Nat => (k : Int) := by
    refine pw_uniq hpw (List.pairwise_map.mpr (List.Pairwise.imp (fun {a b} h => by show (a : Int) < (b : Int); omega) (asc_pw xs n))) fun k => ?_
    rw [hmem]
    constructor
    · intro hk
      obtain ⟨z, hz, e⟩ := List.mem_map.mp hk
      exact List.mem_map.mpr ⟨z, (mem_asc h).mpr hz, e⟩
    · intro hk
      obtain ⟨z, hz, e⟩ := List.mem_map.mp hk
      exact List.mem_map.mpr ⟨z, (mem_asc h).mp hz, e⟩
  rw [this, ← natsD_ints]
  exact q
/-! ### a call without arguments -/
theorem pe_callS0 {X : Cx} {x : Str} {p pos : Pos} {k : Nat} {f : Addr} {fd : FuncData} {ps : List Str} {sp : Sp} {E : L2.St → XK} (F : FnOk X.prog X.w X.K X.mg X.base (VL.CX X.prog X.w) k f fd ps sp) (hr : Room k X.A) (hg : Gl X x) (hm : X.mg x = some (.ref f)) (hk : PySem.W.keepIn X.K (.ref f) = true) (hb : Binds X.K fd ps []) (hx : ∀ σ, PassesAt (VL.CX X.prog X.w) X σ (E σ))
    (hdb : (x == ("__debug__" : Str)) = false := by decide) : PE X (.Call (.Name x p) [] [] pos) (tCallS sp E tNil) := by
  refine ⟨fun pins s σ H Q I h => ?_⟩
  refine wpAny_Call_Name_kw (ld_glob I hg hm ?_ hdb)
  exact PySem.W.callWith_K0 I.kIn hk (run_fnS (us := []) F hr hb (hx σ) I .nil h)
section
variable {X : Cv}
theorem ve_call0 {x : Str} {p pos : Pos} {k : Nat} {vsp : VSp} (F : Fv X.prog X.w X.K X.mg X.base x k 0 vsp) (m : Mono vsp) (hr : Room k X.A) (hg : Gl X.toCx x) (hdb : (x == ("__debug__" : Str)) = false := by decide) :
    VE X (.Call (.Name x p) [] [] pos) (vCall vsp [] vaNil) := by
  obtain ⟨f, fd, ps, hm, hk, hb, F⟩ := F.ex
  refine ⟨fun W => tCallS (Lift X.K 0 vsp) (WE W) tNil, fun W tk => pe_callS0 F hr hg hm hk hb (fun σ => passAt tk σ) hdb, fun b σ H ε T Tv W N Q Q' I q kk x => ?_⟩
  exact call_run (ds := []) (vs := []) (rs := []) I.lenT rfl rfl (by simpa using I) True.intro q (m []) kk x
end
end VL
/-! VL36: list(range(n)). -/
namespace VL
open PySem PySem.Spec PyProof.Rows L2 VL
theorem vals_at : ∀ {l : List Value} {ns : List Int}, l.length = ns.length → (∀ (i : Nat) v, l[i]? = some v → ∃ k t, ns[i]? = some k ∧ v = .int k t) → Vals (ns.map V.int) l
  | [], [], _, _ => .nil
  | [], _ :: _, h, _ => by simp at h
  | _ :: _, [], h, _ => by simp at h
  | v :: l, n :: ns, h, k => by
    obtain ⟨z, t, e, rfl⟩ := k 0 v rfl
    have e : n = z := by simpa using e
    subst e
    exact .cons ⟨t, rfl⟩ (vals_at (by simpa using h) fun i w hw => k (i + 1) w (by simpa using hw))
def tListRng (te : TE) : TE := fun σ H Q => te σ H fun v H1 => ∃ j : Int, v = .int j ∧ 0 ≤ j ∧ j < 100000 ∧ ∀ p, H1 p = none → Q (.ref p) (upd H1 p (.lst (((List.range j.toNat).map fun k : Nat => (k : Int)).map V.int)))
theorem pe_listRng {X : Cx} {e : Expr} {te : TE} {p p2 pos pos2 : Pos} (hc : X.calm = true) (hg : Gl X "list") (hm : X.mg "list" = none) (hg2 : Gl X "range") (hm2 : X.mg "range" = none) (he : PE X e te)
    (hs : starEach [e] X.env = (false, eval e X.env) :: starEach [] X.env := by rfl)
    (hs2 : starEach [.Call (.Name "range" p2) [e] [] pos2] X.env = (false, eval (.Call (.Name "range" p2) [e] [] pos2) X.env) :: starEach [] X.env := by rfl) :
    PE X (.Call (.Name "list" p) [.Call (.Name "range" p2) [e] [] pos2] [] pos) (tListRng te) := by
  refine ⟨fun pins s σ H Q I h => ?_⟩
  refine Call_ (ld_blt I hg hm boot_list (PyProof.Rows.callWith_type1 (args_cons (Call_ (ld_blt I hg2 hm2 boot_range (PyProof.Rows.callWith_type1 (args_cons (thn (he.run pins s σ H _ I h) fun u s1 ⟨v, H1, I1, r1, q1⟩ => args_nil ?_) hs) hs rfl))) hs2) hs2 rfl))
  obtain ⟨j, ev, j0, j1, q⟩ := q1
  subst ev
  obtain ⟨t, rfl⟩ := r1
  have hcalm := I1.ok.hd hc
  refine call_range_1 (args_nil ?_)
  have lt : ((List.range j.toNat).map fun k : Nat => (k : Int)).length = j.toNat := by simp
  have e1 : Builtin.Range.rangeSize 0 j 1 = (j.toNat : Int) := by rw [rangeSize_one]; split <;> omega
  have sz : (s1.heap.push { cls := .type "range", data := .fields #[.int 0 s1.toks, .int j t, .int 1 (s1.toks + 1)] }).objs.size = s1.heap.objs.size + 1 := Heap.size_push ..
  refine call_list_range (s := { s1 with heap := s1.heap.push { cls := .type "range", data := .fields #[.int 0 s1.toks, .int j t, .int 1 (s1.toks + 1)] }, toks := s1.toks + 1 + 1 }) (n := j.toNat) hcalm (IsRange.new ..) (small_one (by decide) (by decide) (by omega) (by omega)) e1 (by omega) fun h' tk acc' c' keep hget hit => ?_
  rw [sz] at hget ⊢
  have all : ∀ b o, s1.heap.get? b = some o → h'.get? b = some o := fun b o e => keep b o (Heap.get?_push_of_some _ e)
  have hz : (((List.range j.toNat).map fun k : Nat => (k : Int)).map V.int).length ≤ sizeLine := by
    have h64 : (100000 : Nat) ≤ sizeLine := by decide
    rw [List.length_map, lt]
    omega
  refine ⟨.ref _, upd H1 (s1.heap.objs.size + 1) (.lst (((List.range j.toNat).map fun k : Nat => (k : Int)).map V.int)), I1.laid (t' := tk) all (Nat.le_succ _) ⟨hz, acc'.toList, c', vals_at ?_ fun i v hv => ?_, ?_⟩, rfl, q _ (I1.hok.fresh (Nat.le_succ _))⟩
  · rw [lt, Array.length_toList]
    exact hit.1
  · rw [Array.getElem?_toList] at hv
    obtain ⟨tt, e⟩ := hit.2 i v hv
    have hi : i < acc'.size := (Array.getElem?_eq_some_iff.mp hv).1
    rw [hit.1] at hi
    exact ⟨(i : Int), tt, by simp [hi], by rw [e]; congr 1; omega⟩
  · rw [Array.toArray_toList]
    exact hget
section
variable {X : Cv}
def sListRng : List D → (D → Prop) → Prop := fun ds Q => ∃ j : Int, ds = [.int j] ∧ 0 ≤ j ∧ j < 100000 ∧ Q (.lst true (natsD (List.range j.toNat)))
theorem e_listRng {j : Int} {Q : D → Prop} : sListRng [.int j] Q ↔ 0 ≤ j ∧ j < 100000 ∧ Q (.lst true (natsD (List.range j.toNat))) := ⟨fun ⟨_, e, q⟩ => by cases e; exact q, fun q => ⟨j, rfl, q⟩⟩
theorem ve_listRng {e : Expr} {r : Option Nat} {t : VTE} {p p2 pos pos2 : Pos} (hc : X.calm = true) (hg : Gl X.toCx "list") (hm : X.mg "list" = none) (hg2 : Gl X.toCx "range") (hm2 : X.mg "range" = none) (h : VG X e r t)
    (hs : starEach [e] X.env = (false, eval e X.env) :: starEach [] X.env := by rfl)
    (hs2 : starEach [.Call (.Name "range" p2) [e] [] pos2] X.env = (false, eval (.Call (.Name "range" p2) [e] [] pos2) X.env) :: starEach [] X.env := by rfl) :
    VE X (.Call (.Name "list" p) [.Call (.Name "range" p2) [e] [] pos2] [] pos) (vOp sListRng [r] (va1 t)) := by
  obtain ⟨t', a1, a2⟩ := h.ex
  refine ⟨fun W => tListRng (t' W), fun W tk => pe_listRng hc hg hm hg2 hm2 (a1 W tk) hs hs2, fun b σ H ε T Tv W N Q Q' I q k x => ?_⟩
  refine a2 b σ H ε T Tv W N _ _ I q (fun d v ε1 H1 J hd z => ?_) x
  have op : OpN X.K (fun vs H Q => ∃ x, vs = [x] ∧ ∃ j : Int, x = .int j ∧ 0 ≤ j ∧ j < 100000 ∧ ∀ p, H p = none → Q (.ref p) (upd H p (.lst (((List.range j.toNat).map fun k : Nat => (k : Int)).map V.int)))) sListRng := OpN.mk fun G H ds vs F Q Q' hs r q k => by
    obtain ⟨j, rfl, j0, j1, q⟩ := q
    obtain ⟨v, rfl, rx⟩ := r.one'
    obtain ⟨rfl, _⟩ := rx
    rw [natsD_ints] at q
    exact ⟨_, rfl, j, rfl, j0, j1, fun p hp => k _ _ _ (.lst (ints_rp _) hp) q⟩
  obtain ⟨v', e', z'⟩ := op.run (ds := [d]) (vs := [v]) (rs := [r]) (Q := Q) (Q' := Q') I.lenT rfl J hd z k
  obtain ⟨rfl, _⟩ := List.cons.inj e'
  exact z'
end
/-- handed arg a, with pre a, it answers r, the arguments being l then, where rel a r l -/
def Rsp {α : Type} (arg : α → List D) (pre : α → Prop) (rel : α → D → List D → Prop) : VSp := fun ds Q _ => ∃ a, ds = arg a ∧ pre a ∧ ∀ r l, rel a r l → Q r l
theorem Rsp.mono {α : Type} {arg : α → List D} {pre : α → Prop} {rel : α → D → List D → Prop} : Mono (Rsp arg pre rel) := fun _ _ _ _ _ h _ ⟨a, e, p, q⟩ => ⟨a, e, p, fun r l z => h _ _ (q r l z)⟩
/-- draws that are left -/
def DrOk (ns : List Nat) : Prop := ∀ x ∈ ns, x < 2147483629
theorem lst_nats {m n : Bool} {a b : List Nat} (h : D.lst m (natsD a) = .lst n (natsD b)) : a = b := natsD_inj (D.lst.inj h).2
theorem int_nat {a b : Nat} (h : D.int (a : Int) = .int (b : Int)) : a = b := by have := D.int.inj h; omega
end VL
/-! VL37: place[k] op= e; an item of a list of ours held by a name of its own. -/
namespace VL
open PySem PySem.Spec PyProof.Rows L2 VL
def rGetA (K : PySem.W.Frag) : V → V → Hp → VK → Prop := fun o i H Q => (∃ p xs k v, o = .ref p ∧ i = .int k ∧ SqL K H p xs ∧ atI xs k = some v ∧ Q v H) ∨ rIxD o i H Q
theorem pget_any {X : Cx} (hu : X.A.units + 1 < cLine) : PGet X (rGetA X.K) := by
  intro pins s σ H o i ov iv Q I ro ri h
  rcases h with h | h
  · obtain ⟨p, xs, k, z, rfl, rfl, hq, he, q⟩ := h
    cases ro
    obtain ⟨t, rfl⟩ := ri
    obtain ⟨its, r, pl, hz⟩ := I.list hq
    obtain ⟨j, h1, h2, h3, h4, h5⟩ := atI_get he
    obtain ⟨w, ew, rw'⟩ := r.get h2
    have hl := r.length
    have hn := line63
    have fin : EP X pins σ Q w s := ⟨z, H, I, rw', q⟩
    by_cases h0 : 0 ≤ k
    · have hj : k.toNat = j := by
        rw [seqIndex_of h0 h5] at h1
        exact Option.some.inj h1
      exact wpAny_getItem_list pl.isList h0 (by omega) (by rw [hj]; simpa using ew) fin
    · have hj : (k + (its.toArray.size : Int)).toNat = j := by
        rw [seqIndex_neg (by omega) h4] at h1
        rw [List.size_toArray, ← hl]
        exact Option.some.inj h1
      exact wpAny_getItem_list_neg pl.isList (by omega) (by rw [List.size_toArray] <;> omega) (by omega) (by rw [hj]; simpa using ew) fin
  · obtain ⟨a, z, rfl, g, q⟩ := h
    obtain rfl : ov = Value.ref a := ro
    exact d_getItem hu I g ri fun w' s' I' rw' => ⟨z, H, I', rw', q⟩
/-- what a container of ours holds under a key, read to be changed -/
def getM : D → D → Option D
  | .lst true ds, .int k => (ixN ds.length k).bind fun j => ds[j]?
  | .pin _ (.lst true ds), .int k => (ixN ds.length k).bind fun j => ds[j]?
  | .dK true ks ds, k => (keyD k).bind fun k => (kIx ks k).bind fun j => ds[j]?
  | _, _ => none
theorem getM_run {K : PySem.W.Frag} {G H : Hp} (hs : Sub G H) {c k d : D} {v w : V} {F1 F2 : List Addr} (rc : Rp K G H c v F1) (rk : Rp K G H k w F2) (h : getM c k = some d) (z : isFz d = true) :
    ∃ u, Rp K G H d u [] ∧ ∀ Q : VK, Q u H → rGetA K v w H Q := by
  have seq : ∀ (ds : List D) (i : Int), k = .int i → ((ixN ds.length i).bind fun j => ds[j]?) = some d → (∃ p vs F', v = .ref p ∧ SqL K H p vs ∧ RpL K G H ds vs F') → ∃ u, Rp K G H d u [] ∧ ∀ Q : VK, Q u H → rGetA K v w H Q := by
    intro ds i e2 e3 e4
    subst e2
    obtain ⟨p, vs, F', rfl, hq, rl⟩ := e4
    obtain ⟨rfl, _⟩ := rk
    cases hj : ixN ds.length i with
    | none => rw [hj] at e3; cases e3
    | some j =>
      rw [hj] at e3
      have e3 : ds[j]? = some d := e3
      obtain ⟨u, hu, ru⟩ := rl.at e3 z
      have ha : atI vs i = some u := by
        unfold atI
        rw [← rl.len, hj]
        exact hu
      exact ⟨u, ru, fun Q q => .inl ⟨p, vs, i, u, rfl, rfl, hq, ha, q⟩⟩
  cases c with
  | lst m ds =>
    cases m with
    | false => cases k <;> cases h
    | true =>
      cases k with
      | int i =>
        obtain ⟨a, vs, F', rfl, s, rfl, r⟩ := rc
        exact seq ds i rfl h ⟨a, vs, _, rfl, SqL.of s, r⟩
      | _ => cases h
  | pin u c1 =>
    cases c1 with
    | lst m ds =>
      cases m with
      | false => cases k <;> cases h
      | true =>
        cases k with
        | int i =>
          obtain ⟨rfl, a, vs, F', rfl, s, rfl, r⟩ := rc
          exact seq ds i rfl h ⟨a, vs, _, rfl, SqL.of s, r⟩
        | _ => cases h
    | _ => cases k <;> cases h
  | dK m ks xs =>
    cases m with
    | false => cases h
    | true =>
      obtain ⟨a, us, F', rfl, e, rfl, l, _, rl⟩ := rc
      have h : ((keyD k).bind fun k => (kIx ks k).bind fun j => xs[j]?) = some d := h
      cases hk : keyD k with
      | none => rw [hk] at h; cases h
      | some k0 =>
        rw [hk] at h
        have h : ((kIx ks k0).bind fun j => xs[j]?) = some d := h
        cases hj : kIx ks k0 with
        | none => rw [hj] at h; cases h
        | some j =>
          rw [hj] at h
          obtain ⟨u, hu, ru⟩ := rl.at h z
          obtain ⟨rfl, _⟩ := rk.keyD hk
          refine ⟨u, ru, fun Q q => .inr ⟨a, u, rfl, ?_, q⟩⟩
          have := DGet.k (k := kc k0) e
          rw [kzip_val (l.trans rl.len), hj] at this
          have e5 : ((some j).bind fun j => us[j]?) = some u := hu
          rw [e5] at this
          exact this
  | _ => cases k <;> cases h
section
variable {X : Cv}
/-- place[k] op= e, of numbers -/
def vAugP (f : Int → Int → Int) (i : Nat) (tp : VTP) (tk te : VTE) : VTS := fun N ε => tp N.rx ε fun p => tk N.rx ε fun k ε1 => ∃ d0 c x, ε[i]? = some (some d0) ∧ ε1[i]? = some (some d0) ∧ getP d0 p = some c ∧ getM c k = some (.int x) ∧ te N.rx ε1 fun y ε2 => ∃ z c', ε2[i]? = some (some d0) ∧ y = .int z ∧ putD c k (.int (f x z)) = some c' ∧ N.nx (ε2.set i (some (setP d0 p c')))
theorem vs_augP {o ie e : Expr} {i : Nat} {te tk : VTE} {tp : VTP} {pos tpos : Pos} {op : Operator} {f : Int → Int → Int} {k : Nat} (hr : Room k X.A) (ho : OpR X.toCx (inplaceOp op) (rI0 fun i j => .int (f i j))) (hp : VP X o i tp) (hk : VQ X ie tk) (he : VQ X e te)
    (ha : ∀ ov iv new, augStore ie ov iv new = (do holding [new, ov, iv] (setItem ov iv new); release [new, ov, iv] []; pure .next) := by intros; rfl) : VS X (.AugAssign (.Subscript o ie tpos) op e pos) (vAugP f i tp tk te) := by
  obtain ⟨te', e1, e2⟩ := he.ex
  obtain ⟨tp', p1, p2⟩ := hp.ex
  obtain ⟨tk', k1, k2⟩ := hk.ex
  have hpi : PIp X.toCx op (rI0 fun i j => .int (f i j)) := ho
  refine ⟨fun W => tAugS (tp' W) (tk' W) (te' W) (rGetA X.K) (rI0 fun i j => .int (f i j)) rSetAny, fun W tk => ps_augS (p1 W tk) (k1 W tk) (pget_any (by have := hr.units; omega)) (e1 W tk) hpi (pset_any (by have := hr.units; omega)) ha, fun b σ H ε T Tv W N E I q l x => ?_⟩
  refine p2 b σ H ε T Tv W N.rx _ _ I q (fun p d0 c v0 vc H1 s1 I1 ei g hs at_ q1 => ?_) x
  refine k2 b σ H1 ε T Tv W N.rx _ _ I1 q1 (fun kd kv ε1 H2 s2 I2 q2 => ?_) x
  obtain ⟨d0', c0, xx, ei0, ei1, g', hm, q2⟩ := q2
  rw [ei] at ei0
  cases ei0
  rw [g] at g'
  cases g'
  have x1 : XL X.K b.1 (T ++ [kd]) (Tv ++ [kv]) W N.rx := x.more I.lenT rfl
  obtain ⟨G, B, FR, su, rc, rk, _⟩ := I2.focusAt I.lenT ei1 g hs (at_.grow s2)
  obtain ⟨kv', vs2, Fk, A2, ek, rfl, rk, _, _⟩ := rk
  cases ek
  obtain ⟨u, ru, go⟩ := getM_run su rc rk hm rfl
  obtain ⟨rfl, _⟩ := ru
  refine go _ ?_
  refine e2 b σ H2 ε1 (T ++ [kd]) (Tv ++ [kv]) W N.rx _ _ I2 q2 (fun yd yv ε2 H3 s3 I3 q3 => ?_) x1
  obtain ⟨z, c', ei2, rfl, hput, q3⟩ := q3
  obtain ⟨_, _, _, rfl, _⟩ := I3.last (by have := I.lenT; simp [this])
  have I4 : SI X.K b.1 σ H3 ε2 (T ++ [kd]) (Tv ++ [kv]) := I3.pop (by have := I.lenT; simp [this])
  have I5 : SI X.K b.1 σ H3 ε2 (T ++ [kd] ++ [.int (f xx z)]) (Tv ++ [kv] ++ [.int (f xx z)]) := I4.push fun _ => ⟨rfl, rfl⟩
  have I6 := SI.swap (A := [kd]) (B := [.int (f xx z)]) (C := []) (Av := [kv]) (Bv := [.int (f xx z)]) (Cv := []) (by simpa only [List.append_assoc, List.append_nil] using I5) I.lenT rfl rfl
  refine ⟨xx, z, rfl, rfl, ?_⟩
  exact put_run (by simpa only [List.append_nil, List.cons_append, List.nil_append] using I6) I.lenT ei2 g hs ((at_.grow s2).grow s3) hput fun H' J => l.nx σ H' _ J q3
/-! ### an item held by a name of its own -/
theorem SI.pin {K : PySem.W.Frag} {b : Bs} {σ : L2.St} {H : Hp} {ε : Ep} {T : List D} {Tv : List V} {d : D} {v : V} (I : SI K b σ H ε (T ++ [d]) (Tv ++ [v])) (hl : T.length = Tv.length) : SI K b σ H ε (T ++ [.pin v d]) (Tv ++ [v]) := by
  obtain ⟨G, F, Ft, J⟩ := I
  obtain ⟨F1, F2, rfl, r1, r2⟩ := J.temps.split2 hl
  have r2 := RpL.one.mp r2
  have r3 : Rp K G H (.pin v d) v F2 := ⟨rfl, r2⟩
  exact ⟨G, F, F1 ++ F2, J.s0, J.sub, J.slots, r1.append (RpL.one.mpr r3), J.nd, J.fr, J.own, J.gn, J.keep, J.kept⟩
theorem SI.unpin {K : PySem.W.Frag} {b : Bs} {σ : L2.St} {H : Hp} {ε : Ep} {T : List D} {Tv : List V} {d : D} {u v : V} (I : SI K b σ H ε (T ++ [.pin u d]) (Tv ++ [v])) (hl : T.length = Tv.length) : v = u ∧ SI K b σ H ε (T ++ [d]) (Tv ++ [v]) := by
  obtain ⟨G, F, Ft, J⟩ := I
  obtain ⟨F1, F2, rfl, r1, r2⟩ := J.temps.split2 hl
  obtain ⟨e, r3⟩ := RpL.one.mp r2
  exact ⟨e, G, F, F1 ++ F2, J.s0, J.sub, J.slots, r1.append (RpL.one.mpr r3), J.nd, J.fr, J.own, J.gn, J.keep, J.kept⟩
/-- xs[k], the item taken out of the slot's tree: a place is left there that knows it -/
def vBor (i : Nat) (ti : VTE) : VTE := fun N ε Q => (∃ d0, ε[i]? = some (some d0)) ∧ ti N ε fun k ε1 => ∃ ds z j d, ε1[i]? = some (some (.lst true ds)) ∧ k = .int z ∧ ixN ds.length z = some j ∧ ds[j]? = some d ∧ ∀ v, Q (.pin v d) (ε1.set i (some (.lst true (ds.set j (.val v)))))
theorem ve_bor {x : Str} {idx : Expr} {i : Nat} {ti : VTE} {p0 pos : Pos} (hi : VQ X idx ti) (hs : PlainIx idx) (hN : X.N[i]? = some x := by rfl) (hv : Vis X.env.scope x := by first | exact Or.inl rfl | exact Or.inr (Or.inl rfl) | exact Or.inr (Or.inr rfl))
    (hd : (x == ("__debug__" : Str)) = false := by decide) (hcd : (x == ("__classdict__" : Str)) = false := by decide) : VE X (.Subscript (.Name x p0) idx pos) (vBor i ti) := by
  obtain ⟨u', b1, b2⟩ := hi.ex
  refine ⟨fun W => tOp (rIxL X.K) (tVar i) (u' W), fun W tk => pe_ix ix_list (pe_var hN hv hd hcd) (b1 W tk) hs, fun b σ H ε T Tv W N Q Q' I q k xl => ?_⟩
  obtain ⟨⟨d0, e0⟩, q⟩ := q
  obtain ⟨v, hsv, _⟩ := I.mov e0
  refine ⟨v, hsv, b2 b σ H ε T Tv W N _ _ I q (fun kd kv ε1 H1 s1 I1 q1 => ?_) xl⟩
  obtain ⟨ds, z, j, d, e1, rfl, hj, hd, q1⟩ := q1
  obtain ⟨_, _, _, rfl, _⟩ := I1.last I.lenT
  have I2 := I1.pop I.lenT
  obtain ⟨v', hs', I3⟩ := I2.mov e1
  rw [hsv] at hs'
  cases hs'
  obtain ⟨G, F, su, a, vs0, F', rfl, ha, _, rl⟩ := I3.last I.lenT
  obtain ⟨u, vs, ha2, hu, I4⟩ := SI.pick I3 I.lenT hd
  rw [ha] at ha2
  cases ha2
  refine ⟨a, vs0, z, u, rfl, rfl, SqL.of ha, ?_, ?_⟩
  · unfold atI
    rw [← rl.len, hj]
    exact hu
  · have I5 := SI.swap (A := [.lst true (ds.set j (.val u))]) (B := [d]) (C := []) (Av := [.ref a]) (Bv := [u]) (Cv := []) (by simpa only [List.append_assoc, List.append_nil, List.cons_append, List.nil_append] using I4) I.lenT rfl rfl
    have I6 := SI.back (T := T ++ [d]) (Tv := Tv ++ [u]) (d := .lst true (ds.set j (.val u))) (v := .ref a) (by simpa only [List.append_assoc, List.append_nil, List.cons_append, List.nil_append] using I5) (by have := I.lenT; simp [this]) hsv
    rw [List.set_set] at I6
    exact k _ u _ H1 (SI.pin I6 I.lenT) (q1 u)
/-- it is given back -/
def vGive (i j : Nat) (t : VTS) : VTS := fun N ε => i ≠ j ∧ ∃ ds m v d, ε[i]? = some (some (.lst true ds)) ∧ ε[j]? = some (some (.pin v d)) ∧ ds[m]? = some (.val v) ∧ t N ((ε.set j none).set i (some (.lst true (ds.set m d))))
theorem vss_give {sts : List Stmt} {t : VTS} {i j : Nat} (h : VSs X sts t) : VSs X sts (vGive i j t) := by
  obtain ⟨t', h1, h2⟩ := h.ex
  refine ⟨t', h1, fun b σ H ε T Tv W N E I q l x => ?_⟩
  obtain ⟨ne, ds, m, v, d, e1, e2, hm, q⟩ := q
  obtain ⟨u, hs, I1⟩ := I.mov e2
  obtain ⟨rfl, I2⟩ := SI.unpin I1 I.lenT
  have e3 : (ε.set j none)[i]? = some (some (.lst true ds)) := by rw [List.getElem?_set_ne (Ne.symm ne)]; exact e1
  obtain ⟨w, hw, I3⟩ := I2.mov e3
  have I4 := SI.swap (A := [d]) (B := [.lst true ds]) (C := []) (Av := [u]) (Bv := [w]) (Cv := []) (by simpa only [List.append_assoc, List.append_nil] using I3) I.lenT rfl rfl
  obtain ⟨G, F, su, a, vs0, F', rfl, ha, _, rl⟩ := I3.last (by have := I.lenT; simp [this])
  have I5 := SI.unpick (xs := ds) (a := a) (k := m) (d := d) (u := u) (by simpa only [List.append_nil, List.cons_append, List.nil_append] using I4) I.lenT hm
  have I6 := SI.back I5 I.lenT hw
  rw [List.set_set] at I6
  exact h2 b σ H _ T Tv W N E I6 q l x
end
end VL
/-! VL38: reverse, insert, pop(i) of lists; dict displays; d.setdefault. -/
namespace VL
open PySem PySem.Spec PyProof.Rows L2 VL
section
variable {K : PySem.W.Frag} {G H : Hp}
theorem RpL.revF : ∀ {ds : List D} {vs : List V} {F : List Addr}, RpL K G H ds vs F → ∃ F', F'.Perm F ∧ RpL K G H ds.reverse vs.reverse F'
  | [], vs, F, h => by
    obtain ⟨rfl, rfl⟩ := h
    exact ⟨[], .refl _, rfl, rfl⟩
  | d :: ds, vs, F, h => by
    obtain ⟨v, vs', F1, F2, rfl, rfl, r, rs⟩ := h
    obtain ⟨F', p, q⟩ := RpL.revF rs
    refine ⟨F' ++ F1, List.perm_append_comm.trans (List.Perm.append_left F1 p), ?_⟩
    rw [List.reverse_cons, List.reverse_cons]
    exact q.append (RpL.one.mpr r)
def muReverse : List D → List D → Option (List D × D) := fun ds es => match es with | [] => some (ds.reverse, .non) | _ => none
theorem mu_reverse : MutOk K rReverse muReverse := by
  intro G H a ds vs F R Rv FR ds' res Q su ha rl rR nd ga hm k
  match R, hm with
  | [], hm =>
    cases hm
    obtain ⟨rfl, rfl⟩ := rR
    obtain ⟨F', p, q⟩ := rl.revF
    exact ⟨a, vs, rfl, rfl, ha, k _ .non F' [] q ⟨rfl, rfl⟩ ⟨[], by simpa using p⟩⟩
def muPopAt : List D → List D → Option (List D × D) := fun ds es => match es with | [.int i] => if ds.length < 1000000 then (ixN ds.length i).bind fun j => (ds[j]?).map fun y => (ds.eraseIdx j, y) else none | _ => none
theorem line_big : 1000000 < sizeLine := by decide
theorem mu_popAt : MutOk K rPopAt muPopAt := by
  intro G H a ds vs F R Rv FR ds' res Q su ha rl rR nd ga hm k
  match R, hm with
  | [.int i], hm =>
    have hm : (if ds.length < 1000000 then (ixN ds.length i).bind fun j => (ds[j]?).map fun y => (ds.eraseIdx j, y) else none) = some (ds', res) := hm
    by_cases hz : ds.length < 1000000
    · rw [if_pos hz] at hm
      cases hj : ixN ds.length i with
      | none => rw [hj] at hm; cases hm
      | some j =>
        rw [hj] at hm
        have hm : (ds[j]?).map (fun y => (ds.eraseIdx j, y)) = some (ds', res) := hm
        cases hy : ds[j]? with
        | none => rw [hy] at hm; cases hm
        | some y =>
          rw [hy] at hm
          cases hm
          obtain ⟨w, rfl, rfl, rfl⟩ := rR.one'
          obtain ⟨h1, h2, h3, h4⟩ := ixN_seq hj
          have e : ds = ds.take j ++ res :: ds.drop (j + 1) := by
            rw [← (List.getElem?_eq_some_iff.mp hy).2, ← List.drop_eq_getElem_cons, List.take_append_drop]
          have rl2 := rl
          rw [e] at rl2
          obtain ⟨us, ws, F1, F2, rfl, rfl, r1, r2⟩ := RpL.split rl2
          obtain ⟨w, ws', A, B, rfl, rfl, ry, rs⟩ := r2
          have hl : us.length = j := by
            rw [← r1.len, List.length_take]
            omega
          have hlen := rl.len
          refine ⟨a, us ++ w :: ws', i, j, w, rfl, rfl, ha, by omega, by omega, by rw [← hlen]; exact h1, by simp [← hl], ?_⟩
          have e1 : (us ++ w :: ws').eraseIdx j = us ++ ws' := by
            rw [List.eraseIdx_append_of_length_le (by omega), hl, Nat.sub_self]
            rfl
          have e2 : ds.eraseIdx j = ds.take j ++ ds.drop (j + 1) := List.eraseIdx_eq_take_drop_succ ..
          rw [e1]
          refine k (us ++ ws') w (F1 ++ B) A (by rw [e2]; exact r1.append rs) ry ⟨[], ?_⟩
          apply List.perm_iff_count.mpr
          intro z
          simp only [List.count_append, List.count_nil]
          omega
    · rw [if_neg hz] at hm; cases hm
abbrev rInsert : V → List V → Hp → VK → Prop := fun x vs H Q => ∃ (l : Addr) (xs : List V) (i : Int) (y : V), x = .ref l ∧ vs = [.int i, y] ∧ H l = some (.lst xs) ∧ xs.length < sizeLine ∧ 0 ≤ i ∧ i < 2 ^ 63 ∧
    Q .non (upd H l (.lst (xs.take i.toNat ++ [y] ++ xs.drop i.toNat)))
def muInsert : List D → List D → Option (List D × D) := fun ds es => match es with | [.int i, y] => if 0 ≤ i ∧ i < 1000000 ∧ ds.length < 1000000 then some (ds.take i.toNat ++ [y] ++ ds.drop i.toNat, .non) else none | _ => none
theorem mu_insert : MutOk K rInsert muInsert := by
  intro G H a ds vs F R Rv FR ds' res Q su ha rl rR nd ga hm k
  match R, hm with
  | [.int i, y], hm =>
    have hm : (if 0 ≤ i ∧ i < 1000000 ∧ ds.length < 1000000 then some (ds.take i.toNat ++ [y] ++ ds.drop i.toNat, D.non) else none) = some (ds', res) := hm
    by_cases hz : 0 ≤ i ∧ i < 1000000 ∧ ds.length < 1000000
    · rw [if_pos hz] at hm
      cases hm
      obtain ⟨v1, vs1, F1, F3, rfl, rfl, r1, v2, vs2, F2, F4, rfl, rfl, r2, rfl, rfl⟩ := rR
      obtain ⟨rfl, rfl⟩ := r1
      have rl2 := rl
      rw [← List.take_append_drop i.toNat ds] at rl2
      obtain ⟨us, ws, A, B, rfl, rfl, q1, q2⟩ := RpL.split rl2
      have l1 := q1.len
      have l2 := q2.len
      rw [List.length_take] at l1
      rw [List.length_drop] at l2
      have hlen := rl.len
      have e1 : (us ++ ws).take i.toNat = us := by
        by_cases h : i.toNat ≤ ds.length
        · rw [List.take_append_of_le_length (by omega), List.take_of_length_le (by omega)]
        · have : ws = [] := List.length_eq_zero_iff.mp (by omega)
          subst this
          rw [List.append_nil, List.take_of_length_le (by omega)]
      have e2 : (us ++ ws).drop i.toNat = ws := by
        by_cases h : i.toNat ≤ ds.length
        · rw [List.drop_append_of_le_length (by omega), List.drop_of_length_le (by omega)]
          rfl
        · have : ws = [] := List.length_eq_zero_iff.mp (by omega)
          subst this
          rw [List.append_nil, List.drop_of_length_le (by omega)]
      refine ⟨a, us ++ ws, i, v2, rfl, rfl, ha, k1m (by rw [← hlen]; exact hz.2.2), hz.1, by omega, ?_⟩
      rw [e1, e2]
      refine k (us ++ [v2] ++ ws) .non (A ++ F2 ++ B) [] ((q1.append (RpL.one.mpr r2)).append q2) ⟨rfl, rfl⟩ ⟨[], ?_⟩
      apply List.perm_iff_count.mpr
      intro z
      simp only [List.count_append, List.count_nil, List.nil_append]
      omega
    · rw [if_neg hz] at hm; cases hm
end
section
variable {X : Cv}
/-! ### any method that changes a named list, the arguments held -/
theorem m_mu (i : Nat) {y : Str} {opos : Pos} {e : Expr} {es : List Expr} {rs : List (Option Nat)} {te : VTA} {name : Str} {id : String} {r : V → List V → Hp → VK → Prop} {mu : List D → List D → Option (List D × D)} {apos cpos : Pos} (m : MutOk X.K r mu) (sl : Slot "list" name id) (ty : typeOf (.builtin id) = pure (.type "method_descriptor")) (mt : MtR X.toCx id r) (he : VA X (e :: es) rs te) (hrs : rs.all (· == none) = true := by rfl) (hN : X.N[i]? = some y := by rfl) (hv : Vis X.env.scope y := by first | exact Or.inl rfl | exact Or.inr (Or.inl rfl) | exact Or.inr (Or.inr rfl))
    (hd : (y == ("__debug__" : Str)) = false := by decide) (hcd : (y == ("__classdict__" : Str)) = false := by decide)
    (hbase : attributeBase (.Name y opos) name X.env (eval (.Name y opos) X.env) = eval (.Name y opos) X.env := by rfl)
    (hfew : ((backTo cpos (starEach (e :: es) X.env)).all (fun x => !x.1) && (backToKw cpos (keywordEach [] X.env)).all (fun x => x.1.isSome) && decide ((e :: es).length + ([] : List Keyword).length + (if ([] : List Keyword).isEmpty then 0 else 1) < 30)) = true := by rfl)
    (hline : (apos.endLine == cpos.line) = true := by rfl) (hs : starEach (e :: es) X.env = (false, eval e X.env) :: starEach es X.env := by rfl) (hplain : (backTo cpos (starEach es X.env)).any (·.1) = false := by rfl) :
    VE X (.Call (.Attribute (.Name y opos) name apos) (e :: es) [] cpos) (vMutN mu i te) := ve_mutN hN hv he hrs m sl ty mt hd hcd hbase hfew hline hs hplain
theorem m_ins (i : Nat) {y : Str} {opos : Pos} {e : Expr} {es : List Expr} {rs : List (Option Nat)} {te : VTA} {apos cpos : Pos} (he : VA X (e :: es) rs te) (hrs : rs.all (· == none) = true := by rfl) (hN : X.N[i]? = some y := by rfl) (hv : Vis X.env.scope y := by first | exact Or.inl rfl | exact Or.inr (Or.inl rfl) | exact Or.inr (Or.inr rfl))
    (hd : (y == ("__debug__" : Str)) = false := by decide) (hcd : (y == ("__classdict__" : Str)) = false := by decide)
    (hbase : attributeBase (.Name y opos) "insert" X.env (eval (.Name y opos) X.env) = eval (.Name y opos) X.env := by rfl)
    (hfew : ((backTo cpos (starEach (e :: es) X.env)).all (fun x => !x.1) && (backToKw cpos (keywordEach [] X.env)).all (fun x => x.1.isSome) && decide ((e :: es).length + ([] : List Keyword).length + (if ([] : List Keyword).isEmpty then 0 else 1) < 30)) = true := by rfl)
    (hline : (apos.endLine == cpos.line) = true := by rfl) (hs : starEach (e :: es) X.env = (false, eval e X.env) :: starEach es X.env := by rfl) (hplain : (backTo cpos (starEach es X.env)).any (·.1) = false := by rfl) :
    VE X (.Call (.Attribute (.Name y opos) "insert" apos) (e :: es) [] cpos) (vMutN muInsert i te) := ve_mutN hN hv he hrs mu_insert PySem.F.slot_list_insert PySem.F.type_list_insert mt_insert hd hcd hbase hfew hline hs hplain
theorem mp_popAt {o e : Expr} {es : List Expr} {i : Nat} {t : VTP} {te : VTA} {apos cpos : Pos} (h : VP X o i t) (he : VAQ X (e :: es) te)
    (hbase : attributeBase o "pop" X.env (eval o X.env) = eval o X.env := by rfl)
    (hfew : ((backTo cpos (starEach (e :: es) X.env)).all (fun x => !x.1) && (backToKw cpos (keywordEach [] X.env)).all (fun x => x.1.isSome) && decide ((e :: es).length + ([] : List Keyword).length + (if ([] : List Keyword).isEmpty then 0 else 1) < 30)) = true := by rfl)
    (hline : (apos.endLine == cpos.line) = true := by rfl) (hs : starEach (e :: es) X.env = (false, eval e X.env) :: starEach es X.env := by rfl) (hplain : (backTo cpos (starEach es X.env)).any (·.1) = false := by rfl) :
    VE X (.Call (.Attribute o "pop" apos) (e :: es) [] cpos) (vMut muPopAt i t te) := ve_mut h he mu_popAt PySem.F.slot_list_pop PySem.F.type_list_pop mt_popAt hbase hfew hline hs hplain
theorem mp_reverse {o : Expr} {i : Nat} {t : VTP} {apos cpos : Pos} (h : VP X o i t)
    (hbase : attributeBase o "reverse" X.env (eval o X.env) = eval o X.env := by rfl) (hline : (apos.endLine == cpos.line) = true := by rfl) :
    VE X (.Call (.Attribute o "reverse" apos) [] [] cpos) (vMut muReverse i t vaNil) := ve_mut0 h mu_reverse PySem.F.slot_list_reverse PySem.F.type_list_reverse mt_reverse hbase hline
/-! ### {k: v, ..} -/
abbrev VTD := WV → Ep → (List (D × D) → Ep → Prop) → Prop
def unz : List (D × D) → List D
  | [] => []
  | (k, y) :: r => k :: y :: unz r
def unzV : List (V × V) → List V
  | [] => []
  | (k, y) :: r => k :: y :: unzV r
structure VPPs (X : Cv) (pos : Pos) (keys : List (Option Expr)) (values : List Expr) (t : VTD) : Prop where
  ex : ∃ t' : WX → List (TE × TE), (∀ W, Takes X.toCx W → PPs X.toCx pos keys values (t' W)) ∧ ∀ (b : Bx X) σ H ε T Tv W N Q Q', SI X.K b.1 σ H ε T Tv → t N ε Q →
    (∀ ds (vs : List (V × V)) ε' H', SI X.K b.1 σ H' ε' (T ++ unz ds) (Tv ++ unzV vs) → ds.length = vs.length → Q ds ε' → Q' vs H') → XL X.K b.1 T Tv W N → tPairs (t' W) σ H Q'
def vdNil : VTD := fun _ ε Q => Q [] ε
def vdCons (tk tv : VTE) (u : VTD) : VTD := fun N ε Q => tk N ε fun k ε1 => tv N ε1 fun y ε2 => u N ε2 fun ds ε3 => Q ((k, y) :: ds) ε3
theorem vpps_nil {pos : Pos} : VPPs X pos [] [] vdNil := ⟨fun _ => [], fun _ _ => pps_nil, fun b σ H ε T Tv W N Q Q' I h k _ => k [] [] ε H (by simpa [unz, unzV] using I) rfl h⟩
theorem vpps_cons {pos : Pos} {e f : Expr} {ks : List (Option Expr)} {vs : List Expr} {tk tv : VTE} {u : VTD} (hk : VE X e tk) (hv : VE X f tv) (hr : VPPs X pos ks vs u) : VPPs X pos (some e :: ks) (f :: vs) (vdCons tk tv u) := by
  obtain ⟨tk', a1, a2⟩ := hk.ex
  obtain ⟨tv', b1, b2⟩ := hv.ex
  obtain ⟨u', c1, c2⟩ := hr.ex
  refine ⟨fun W => (tk' W, tv' W) :: u' W, fun W tk => pps_cons (a1 W tk) (b1 W tk) (c1 W tk), fun b σ H ε T Tv W N Q Q' I q k x => ?_⟩
  refine a2 b σ H ε T Tv W N _ _ I q (fun d v ε1 H1 J1 q1 => ?_) x
  refine b2 b σ H1 ε1 (T ++ [d]) (Tv ++ [v]) W N _ _ J1 q1 (fun d2 w ε2 H2 J2 q2 => ?_) (x.more I.lenT rfl)
  refine c2 b σ H2 ε2 (T ++ [d] ++ [d2]) (Tv ++ [v] ++ [w]) W N _ _ J2 q2 (fun ds us ε3 H3 J3 l q3 => ?_) ((x.more I.lenT rfl).more (lenApp I.lenT rfl) rfl)
  exact k ((d, d2) :: ds) ((v, w) :: us) ε3 H3 (by simpa only [unz, unzV, List.append_assoc, List.cons_append, List.nil_append] using J3) (by simp [l]) q3
/-- keys, and what stands under them -/
def keysD : List (D × D) → Option (List Kc)
  | [] => some []
  | (k, _) :: r => (keyD k).bind fun k => (keysD r).map (k :: ·)
def vDisp (t : VTD) : VTE := fun N ε Q => t N ε fun ds ε1 => ∃ ks, keysD ds = some ks ∧ ks.Nodup ∧ Q (.dK true ks (ds.map (·.2))) ε1
theorem keys_rpl {K : PySem.W.Frag} {G H : Hp} : ∀ {ds : List (D × D)} {vs : List (V × V)} {F : List Addr} {ks : List Kc}, RpL K G H (unz ds) (unzV vs) F → ds.length = vs.length → keysD ds = some ks → ks.length = ds.length ∧ vs = (ks.zip (vs.map (·.2))).map (fun p => (kV (kc p.1), p.2)) ∧ RpL K G H (ds.map (·.2)) (vs.map (·.2)) F
  | [], [], F, ks, r, _, h => by
    cases h
    exact ⟨rfl, rfl, r⟩
  | (k, y) :: ds, (v, w) :: vs, F, ks, r, hl, h => by
    obtain ⟨v', vs', F1, F2, e, rfl, rk, r⟩ := r
    obtain ⟨w', vs'', F3, F4, e2, rfl, ry, r⟩ := r
    have e : v :: w :: unzV vs = v' :: vs' := e
    cases e
    cases e2
    have h : ((keyD k).bind fun k => (keysD ds).map (k :: ·)) = some ks := h
    cases hk : keyD k with
    | none => rw [hk] at h; cases h
    | some k0 =>
      rw [hk] at h
      cases hr : keysD ds with
      | none => rw [hr] at h; cases h
      | some ks' =>
        rw [hr] at h
        cases h
        obtain ⟨rfl, rfl⟩ := rk.keyD hk
        obtain ⟨l1, e3, r3⟩ := keys_rpl r (Nat.succ.inj hl) hr
        refine ⟨by simp [l1], ?_, ⟨w, _, F3, F4, rfl, rfl, ry, r3⟩⟩
        simp only [List.map_cons, List.zip_cons_cons]
        rw [← e3]
  | [], _ :: _, _, _, _, hl, _ => by cases hl
  | _ :: _, [], _, _, _, hl, _ => by cases hl
theorem merge_new : ∀ {ks : List Kc} {vs : List V} {js : List Kc} {us : List V}, (js ++ ks).Nodup → ks.length = vs.length → js.length = us.length → mergeK (kzip js us) (kzip ks vs) = kzip (js ++ ks) (us ++ vs)
  | [], [], js, us, _, _, _ => by simp [mergeK, kzip]
  | k :: ks, v :: vs, js, us, nd, h, hj => by
    have nj : js.Nodup := (List.nodup_append.mp nd).1
    have hk : kIx js k = none := by
      cases e : kIx js k with
      | none => rfl
      | some i =>
        exfalso
        have hi := kIx_lt e
        have hm : k ∈ js := by
          clear nd nj hj h
          induction js generalizing i with
          | nil => cases e
          | cons a js ih =>
            unfold kIx at e
            split at e
            · rename_i q; rw [q]; exact List.mem_cons_self
            · cases e2 : kIx js k with
              | none => rw [e2] at e; cases e
              | some i2 => exact List.mem_cons_of_mem _ (ih i2 e2 (kIx_lt e2))
        exact (List.nodup_append.mp nd).2.2 k hm k List.mem_cons_self rfl
    show mergeK (putK (kzip js us) (kc k) v) (kzip ks vs) = _
    rw [kzip_put nj hj, hk]
    have := merge_new (ks := ks) (vs := vs) (js := js ++ [k]) (us := us ++ [v]) (by simpa using nd) (Nat.succ.inj h) (by simp [hj])
    simpa using this
  | [], _ :: _, _, _, _, h, _ => by cases h
  | _ :: _, [], _, _, _, h, _ => by cases h
theorem ve_disp {keys : List (Option Expr)} {values : List Expr} {t : VTD} {pos : Pos} (h : VPPs X pos keys values t) (hall : keys.all (·.isSome) = true := by rfl) (hl : keys.length = values.length := by rfl) (h0 : keys ≠ [] := by simp) (h15 : keys.length ≤ 15 := by decide)
    (hlen : ∀ N ε Q, t N ε Q → t N ε fun ds ε1 => ds.length ≤ 15 ∧ Q ds ε1) : VE X (.Dict keys values pos) (vDisp t) := by
  obtain ⟨t', h1, h2⟩ := h.ex
  refine ⟨fun W => tDisp (t' W), fun W tk => pe_disp (h1 W tk) hall hl h0 h15, fun b σ H ε T Tv W N Q Q' I q k x => fun p hp => ?_⟩
  have I0 : SI X.K b.1 σ (upd H p (.dK [])) ε (T ++ [.dK true [] []]) (Tv ++ [.ref p]) := SI.laid (ds := []) (vs := []) (by simpa using I) I.lenT hp (.dK []) fun G H' F e r => by
    obtain ⟨_, rfl⟩ := r
    exact ⟨p, [], [], rfl, e, rfl, rfl, List.nodup_nil, rfl, rfl⟩
  refine h2 b σ _ ε _ _ W N _ _ I0 (hlen _ _ _ q) (fun ds vs ε1 H1 J l z => ?_) (x.more I.lenT rfl)
  obtain ⟨l15, ks, hk, nd, z⟩ := z
  obtain ⟨G, F, Ft, J⟩ := J
  have J' := J
  obtain ⟨F1, F2, rfl, r1, r2⟩ := (show RpL X.K G H1 (T ++ ([.dK true [] []] ++ unz ds)) (Tv ++ ([.ref p] ++ unzV vs)) Ft by simpa only [List.append_assoc] using J.temps).split2 I.lenT
  obtain ⟨v0, vs0, A, B, e0, rfl, rp, rs⟩ := r2
  cases e0
  obtain ⟨p', us', F', ep, hd, rfl, _, _, ru⟩ := rp
  cases ep
  obtain ⟨rfl, rfl⟩ := ru
  obtain ⟨lk, ev, rv⟩ := keys_rpl rs l hk
  refine ⟨by simpa [kzip] using hd, (kzip ks (vs.map (·.2))), ?_, ?_, ?_⟩
  · conv => lhs; rw [ev]
    unfold kzip
    rw [List.zip_map_left, List.map_map]
    rfl
  · unfold kzip
    rw [List.length_zip, List.length_map]
    omega
  · have em : mergeK [] (kzip ks (vs.map (·.2))) = kzip ks (vs.map (·.2)) := merge_new (js := []) (us := []) (by simpa using nd) (by rw [List.length_map, lk, l]) rfl
    rw [em]
    have np : p ∉ F ++ (F1 ++ B) := fun hz => by
      have h3 := J.nd
      have h4 : (F ++ (F1 ++ ([p] ++ B))).Perm (p :: (F ++ (F1 ++ B))) := by
        apply List.perm_iff_count.mpr
        intro a
        simp only [List.count_append, List.count_cons, List.count_nil]
        omega
      exact (List.nodup_cons.mp (h4.nodup_iff.mp h3)).1 hz
    have mv : ∀ a ∈ F ++ (F1 ++ B), upd H1 p (.dK (kzip ks (vs.map (·.2)))) a = H1 a := fun a hz => upd_ne fun e => np (e ▸ hz)
    have gp : G p = none := J.fr p (by simp)
    refine k (.dK true ks (ds.map (·.2))) _ ε1 _ ⟨G, F, F1 ++ ([p] ++ B), J.s0, fun a o e => ?_, J.slots.mono Sub.refl fun a hz => mv a (List.mem_append_left _ hz), ?_, J.nd, J.fr, J.own, J.gn, fun a o e n => ?_, J.kept⟩ z
    · by_cases ha : a = p
      · rw [ha, gp] at e; cases e
      · rw [upd_ne ha]; exact J.sub a o e
    · refine (r1.mono Sub.refl fun a hz => mv a (List.mem_append_right _ (List.mem_append_left _ hz))).append (RpL.one.mpr ?_)
      exact ⟨p, vs.map (·.2), B, rfl, upd_same, rfl, by rw [List.length_map, lk], nd, rv.mono Sub.refl fun a hz => mv a (List.mem_append_right _ (List.mem_append_right _ hz))⟩
    · by_cases ha : a = p
      · subst ha
        rcases J.own a (by simp) with h5 | h5
        · exact absurd h5 n
        · rw [e] at h5; cases h5
      · rw [upd_ne ha]; exact J.keep a o e n
end
end VL
/-! VL39: for over a tuple of what is ours, its items given away one by one; dict displays of one entry. -/
namespace VL
open PySem PySem.Spec PyProof.Rows L2 VL
section
variable {K : PySem.W.Frag} {b : Bs} {σ : L2.St} {H : Hp} {ε : Ep} {T : List D} {Tv : List V}
theorem vals_rpl {K : PySem.W.Frag} {G H : Hp} : ∀ us : List V, RpL K G H (us.map D.val) us []
  | [] => ⟨rfl, rfl⟩
  | u :: us => ⟨u, us, [], [], rfl, rfl, ⟨rfl, rfl⟩, vals_rpl us⟩
theorem vals_of {K : PySem.W.Frag} {G H : Hp} : ∀ {us vs : List V} {F : List Addr}, RpL K G H (us.map D.val) vs F → vs = us
  | [], vs, F, h => h.1
  | u :: us, vs, F, h => by
    obtain ⟨v, vs', F1, F2, rfl, rfl, ⟨rfl, _⟩, rs⟩ := h
    rw [vals_of rs]
theorem vals_fzL (us : List V) : isFzL (us.map D.val) = true := by
  rw [isFzL_all, List.all_map]
  exact List.all_eq_true.mpr fun x _ => rfl
theorem SI.untup {ds : List D} {v : V} (I : SI K b σ H ε (T ++ [.tup ds]) (Tv ++ [v])) (hl : T.length = Tv.length) : ∃ a us, v = .ref a ∧ us.length = ds.length ∧ SI K b σ H ε (T ++ (.tup (us.map D.val) :: ds)) (Tv ++ (.ref a :: us)) := by
  obtain ⟨G, F, Ft, J⟩ := I
  obtain ⟨F1, F2, rfl, r1, r2⟩ := J.temps.split2 hl
  obtain ⟨a, vs, rfl, s, r⟩ := RpL.one.mp r2
  refine ⟨a, vs, rfl, r.len.symm, G, F, F1 ++ F2, J.s0, J.sub, J.slots, r1.append ?_, J.nd, J.fr, J.own, J.gn, J.keep, J.kept⟩
  exact ⟨.ref a, vs, [], F2, rfl, rfl, ⟨a, vs, rfl, s, vals_rpl vs⟩, r⟩
theorem SI.tupAt {us : List V} {a : Addr} (I : SI K b σ H ε (T ++ [.tup (us.map D.val)]) (Tv ++ [.ref a])) (hl : T.length = Tv.length) : SqT K H a us := by
  obtain ⟨G, F, su, r⟩ := I.last hl
  obtain ⟨a', vs, e, s, r⟩ := r
  cases e
  rw [vals_of r] at s
  exact SqT.of (su _ _ s)
def vForGL (j : Nat) (body : VTS) : List D → VTS
  | [], N, ε => N.nx ε
  | d :: ds, N, ε => j < ε.length ∧ body { nx := fun ε' => vForGL j body ds N ε', rt := fun _ _ => False, ct := fun ε' => vForGL j body ds N ε', rx := fun _ _ _ => False } (ε.set j (some d))
def vForG (i j : Nat) (body : VTS) : VTS := fun N ε => ∃ ds, ε[i]? = some (some (.tup ds)) ∧ vForGL j body ds N (ε.set i none)
end
section
variable {X : Cv}
theorem vs_forG {i j : Nat} {x y : Str} {px py pos : Pos} {body : List Stmt} {t : VTS} (hp : PassesOwn (model X.prog X.w) X.A X.env X.xe) (hc : X.calm = true) (hN : X.N.Nodup) (hb : VSs X body t)
    (hi : X.N[i]? = some x := by rfl) (hv : Vis X.env.scope x := by first | exact Or.inl rfl | exact Or.inr (Or.inl rfl) | exact Or.inr (Or.inr rfl)) (hd : (x == ("__debug__" : Str)) = false := by decide) (hcd : (x == ("__classdict__" : Str)) = false := by decide)
    (hj : X.N[j]? = some y := by rfl) (hx : Loc X.env.scope y := by first | exact Or.inl rfl | exact Or.inr rfl) (hk : X.κ[j]? ≠ some true := by exact ne_of_beq_false rfl)
    (hf : X.fn y = true ∨ X.env.scope.names.lookup y = some .local := by first | exact .inl rfl | exact .inr rfl)
    (hs : ∀ v, foldedSetIterable (.Name x px) X.env v = pure v := by intro _; rfl) : VS X (.For (.Name y py) (.Name x px) body [] pos) (vForG i j t) := by
  obtain ⟨t', t1, t2⟩ := hb.ex
  refine ⟨fun W => tFor (iTup X.K (tVar i)) (gName j) (t' W), fun W tk => ps_for hp hc (pi_tup (pe_var hi hv hd hcd)) (pg_name hN hj hx hf) (t1 W tk) hs, fun b σ H ε T Tv W N E I q l xl => ?_⟩
  obtain ⟨ds, e0, z⟩ := q
  obtain ⟨v, hs0, I1⟩ := I.mov e0
  have hl := I.lenT
  obtain ⟨a, us, rfl, lu, I2⟩ := I1.untup hl
  have keepT : ∀ {σ2 H2 ε2 R Rv}, SI X.K b.1 σ2 H2 ε2 (T ++ (.tup (us.map D.val) :: R)) (Tv ++ (.ref a :: Rv)) → SI X.K b.1 σ2 H2 ε2 (T ++ [.tup (us.map D.val)]) (Tv ++ [.ref a]) := fun {σ2 H2 ε2 R Rv} J => by
    have J2 : SI X.K b.1 σ2 H2 ε2 ((T ++ [.tup (us.map D.val)]) ++ R) ((Tv ++ [.ref a]) ++ Rv) := by simpa only [List.append_assoc, List.cons_append, List.nil_append] using J
    exact J2.drop (by simp [hl])
  refine ⟨.ref a, hs0, a, rfl, ⟨us, (keepT I2).tupAt hl⟩, fun k m σ H => ∃ todo ε, m = todo.length ∧ k + todo.length = us.length ∧ SI X.K b.1 σ H ε (T ++ (.tup (us.map D.val) :: todo)) (Tv ++ (.ref a :: us.drop k)) ∧ vForGL j t todo N ε, ⟨ds.length, ds, _, rfl, by omega, I2, z⟩, ?_⟩
  rintro k m σ2 H2 ⟨todo, ε2, rfl, hk2, J, z2⟩
  obtain ⟨go, stop⟩ := wk_tup (K := X.K) (ds := us.map D.val) (a := a) (vals_fzL us) b.1 σ2 H2 ε2 T Tv k hl (keepT J)
  have hsq := (keepT J).tupAt hl
  cases todo with
  | nil =>
    left
    have hk3 : k = us.length := by simpa using hk2
    exact ⟨stop (by rw [List.length_map]; omega), l.nx σ2 H2 _ (J.drop hl) z2⟩
  | cons d todo =>
    right
    have hlt : k < us.length := by simp at hk2; omega
    obtain ⟨hjl, zb⟩ := z2
    refine ⟨(go (.val us[k]) (by rw [List.getElem?_map, List.getElem?_eq_getElem hlt]; rfl)).1, fun σ' H' => ∃ ε', SI X.K b.1 σ' H' ε' (T ++ (.tup (us.map D.val) :: todo)) (Tv ++ (.ref a :: us.drop (k + 1))) ∧ vForGL j t todo N ε', fun σ' H' ⟨ε', h3, h4⟩ => ⟨todo.length, by simp, todo, ε', rfl, by simp at hk2; omega, h3, h4⟩, fun w H' y => ?_⟩
    obtain ⟨rfl, y⟩ := y
    have hw := y us hsq
    rw [List.getElem?_eq_getElem hlt] at hw
    cases hw
    rw [List.drop_eq_getElem_cons hlt] at J
    have J2 := SI.swap (T := T ++ [.tup (us.map D.val)]) (Tv := Tv ++ [.ref a]) (A := [d]) (B := todo) (C := []) (Av := [us[k]]) (Bv := us.drop (k + 1)) (Cv := []) (by simpa only [List.append_assoc, List.cons_append, List.nil_append, List.append_nil] using J) (by simp [hl]) rfl (by rw [List.length_drop]; simp at hk2; omega)
    have J3 := SI.store (T := T ++ (.tup (us.map D.val) :: todo)) (Tv := Tv ++ (.ref a :: us.drop (k + 1))) (d := d) (v := us[k]) (i := j) (by simpa only [List.append_assoc, List.cons_append, List.nil_append, List.append_nil] using J2) (by simp [hl] <;> simp at hk2 <;> omega) hjl (b.free hk)
    exact t2 b (σ2.set j (some us[k])) H' (ε2.set j (some d)) _ _ W _ _ J3 zb ⟨fun σ5 H5 ε5 I5 z5 => ⟨ε5, I5, z5⟩, fun _ _ _ _ _ _ z5 => z5.elim, fun _ _ _ _ z5 => z5.elim, fun σ5 H5 ε5 I5 z5 => ⟨ε5, I5, z5⟩⟩ fun _ _ _ _ _ _ _ _ _ _ n => n.elim
end
theorem e_forGN {j : Nat} {B B' : VTS} (h : B = B') {N : VEnds} {ε : Ep} : vForGL j B [] N ε = N.nx ε := rfl
theorem e_forGU {j : Nat} {B B' : VTS} (h : B = B') {d : D} {ds : List D} {N : VEnds} {ε : Ep} : vForGL j B (d :: ds) N ε = (j < ε.length ∧ B' { nx := fun ε' => vForGL j B ds N ε', rt := fun _ _ => False, ct := fun ε' => vForGL j B ds N ε', rx := fun _ _ _ => False } (ε.set j (some d))) := by subst h; rfl
/-- one entry, its key a number of a node -/
theorem keysD_one {k : Nat} {y : D} {P : List Kc → Prop} : (∃ ks, keysD [(.int (k : Int), y)] = some ks ∧ ks.Nodup ∧ P ks) ↔ P (natK [k]) :=
  ⟨fun ⟨_, e, _, p⟩ => by cases e; exact p, fun p => ⟨_, rfl, by simp, p⟩⟩
/-! ### dicts whose keys are numbers, all worth True -/
def markD (m : Bool) (ks : List Nat) : D := .dK m (natK ks) (ks.map fun _ => D.bl true)
theorem mark_nil : markD true [] = .dK true [] [] := rfl
theorem mark_vals_fz (ks : List Nat) : isFzL (ks.map fun _ => D.bl true) = true := by
  rw [isFzL_all, List.all_map]
  exact List.all_eq_true.mpr fun x _ => rfl
theorem mark_frz (m : Bool) (ks : List Nat) : frz (markD m ks) = markD false ks := by
  show D.dK false (natK ks) (frzL _) = _
  rw [frzL_id (mark_vals_fz ks)]
  rfl
theorem mark_put {ks : List Nat} {k : Nat} (h : k ∉ ks) (hl : ks.length < 1000000) : putD (markD true ks) (.int (k : Int)) (.bl true) = some (markD true (ks ++ [k])) := by
  show (if (ks.map fun _ => D.bl true).length < 1000000 then (some (Sum.inl (k : Int) : Kc)).map (fun z => match kIx (natK ks) z with | some j => D.dK true (natK ks) ((ks.map fun _ => D.bl true).set j (.bl true)) | none => .dK true (natK ks ++ [z]) ((ks.map fun _ => D.bl true) ++ [D.bl true])) else none) = _
  rw [if_pos (by rw [List.length_map]; exact hl)]
  show some (match kIx (natK ks) (Sum.inl (k : Int)) with | some j => D.dK true (natK ks) ((ks.map fun _ => D.bl true).set j (.bl true)) | none => .dK true (natK ks ++ [Sum.inl (k : Int)]) ((ks.map fun _ => D.bl true) ++ [D.bl true])) = _
  rw [kIx_nat, if_neg h, natK_app]
  simp [markD]
theorem mark_putS {ks : List Nat} {k : Nat} (h : k ∉ ks) (hl : ks.length < 1000000) {P : D → Prop} : (∃ c, putD (markD true ks) (.int (k : Int)) (.bl true) = some c ∧ P c) ↔ P (markD true (ks ++ [k])) := by
  rw [mark_put h hl]
  exact ⟨fun ⟨_, e, p⟩ => by cases e; exact p, fun p => ⟨_, rfl, p⟩⟩
theorem vmem_mark {m : Bool} {ks : List Nat} {k : Nat} {P : Bool → Prop} : (∃ r, memD (.int (k : Int)) (markD m ks) = some r ∧ P r) ↔ P (decide (k ∈ ks)) := vmem_natK
end VL
/-! VL40: list(reversed(t)), t a tuple. -/
namespace VL
open PySem PySem.Spec PyProof.Rows L2 VL
section
variable {prog : Program} {w : World} {A : Around} {E : Value → Shared → Prop} {s : Shared}
theorem nolen_rt : typeLookup (.type "reversed") "__len__" = pure none := by rw [typeLookup_type, builtinLookup_eq_fast]; kernel_rfl
theorem slot_rt_hint : Slot "reversed" "__length_hint__" "reversed.__length_hint__" :=
  .of (owner := "reversed") (n := "__length_hint__") (by rw [typeLookup_type, builtinLookup_eq_fast]; kernel_rfl) (by decide +kernel) (by decide +kernel) (by decide +kernel) (by first | exact .inl (by decide +kernel) | exact .inr (by decide +kernel)) (by rw [isSubtype_type]; kernel_rfl)
theorem args_rt_hint (a : Value) : argsOk "reversed.__length_hint__" ⟨[a], []⟩ := by
  unfold argsOk
  rw [signature?_of (id := "reversed.__length_hint__") (n := "__length_hint__".toList.reverse) (o := "reversed".toList.reverse) (by kernel_rfl) RT.owner_rt]
  kernel_rfl
theorem entry_rt_hint : entryFor table "reversed.__length_hint__" = some Builtin.«reversed.__length_hint__» := entryFor_of_tree (by kernel_rfl)
theorem run_rt_hint {I t : Addr} {items : Array Value} {Q : Value → Shared → Prop} (hit : RT.IsRt s.heap I t ((items.size : Int) - 1)) (ht : IsTup s.heap t items) (sz : items.size ≤ 1000000)
    (k : ∀ tk tk2, s.toks ≤ tk → Q (.int items.size tk2) { s with toks := tk }) : wpAny (model prog w) A (call (.builtin "reversed.__length_hint__") [.ref I]) Q E s := by
  refine wpAny_call_entry slot_rt_hint hit.typeIs entry_rt_hint ?_ (args_rt_hint _)
  obtain ⟨o, ho, hc, hd⟩ := id hit
  unfold Builtin.«reversed.__length_hint__»
  refine wpAny_bind (wpAny_of_eq (a := Value.ref I) rfl ?_)
  try dsimp only
  refine wpAny_bind (wpAny_field ho hd (x := .ref t) rfl ?_)
  try dsimp only
  rw [if_neg (by simp)]
  refine wpAny_bind (len_tuple ht (by have := line63; omega) ?_)
  refine wpAny_bind (wpAny_of_eq (a := some ((items.size : Nat) : Int)) rfl ?_)
  try dsimp only
  refine wpAny_bind (wpAny_field ho hd (x := rawInt ((items.size : Int) - 1)) rfl ?_)
  show wpAny _ _ (if (items.size : Int) < ((items.size : Int) - 1) + 1 then _ else _) _ _ _
  rw [if_neg (by omega)]
  have e1 : (items.size : Int) - 1 + 1 = items.size := by omega
  rw [e1]
  refine wpAny_bind (wpAny_mkInt ?_)
  refine wpAny_pure ⟨_, rfl, ?_⟩
  exact k _ _ (by show s.toks ≤ s.toks + 1 + 1 + 1; omega)
theorem hint_rt {I t : Addr} {items : Array Value} {Q : Bool → Shared → Prop} (hit : RT.IsRt s.heap I t ((items.size : Int) - 1)) (ht : IsTup s.heap t items) (sz : items.size ≤ 1000000)
    (k : ∀ (b : Bool) (tk : Nat), s.toks ≤ tk → Q b { s with toks := tk }) : wpAny (model prog w) A (Builtin.List.listLengthHint (.ref I)) Q E s := by
  have ty := hit.typeIs
  unfold Builtin.List.listLengthHint
  refine wpAny_bind (wpAny_specialOf ty nolen_rt ?_)
  show wpAny _ A (specialOf (Value.ref I) (Str.ofString "__length_hint__") >>= _) Q E s
  refine wpAny_bind (wpAny_specialOf ty slot_rt_hint.lookup ?_)
  generalize hid : ("reversed.__length_hint__" : String) = idn
  wp_delta
  rw [show splitId idn = some ("reversed", "__length_hint__") from by subst hid; decide +kernel]
  subst hid
  refine wpAny_bind (wpAny_isInstance (b := true) ty (by rw [isSubtype_type]; kernel_rfl) ?_)
  rw [if_neg (by decide)]
  rw [if_neg (by decide +kernel)]
  refine wpAny_bind (wpAny_rule ?_)
  refine wpAny_bind (wpAny_of_eq (slot_rt_hint.bind _) ?_)
  try dsimp only
  refine wpAny_bind (wpAny_attempt (run_rt_hint hit ht sz fun tk tk2 hk => ?_))
  try dsimp only
  have ea : (asInt? (Value.int ((items.size : Nat) : Int) tk2) : Sem (Option Int)) = pure (some ((items.size : Nat) : Int)) := rfl
  have f1 : Builtin.List.listFitsIndex ((items.size : Nat) : Int) = true := by
    unfold Builtin.List.listFitsIndex
    simp
    omega
  have f2 : Builtin.List.listTooLong ((items.size : Nat) : Int).toNat = false := by
    unfold Builtin.List.listTooLong
    have := line_big
    simp
    omega
  have f3 : ¬((items.size : Nat) : Int) < 0 := by omega
  simp only [ea, pure_bind, f1, f2, Bool.not_true, Bool.false_eq_true, if_false, f3]
  exact wpAny_pure (k _ tk hk)
theorem walks_rt (hh : A.handled = none) (I t : Addr) (hne : t ≠ I) (items : Array Value) (sz : items.size ≤ sizeLine) :
    Walks prog w A I [I, t] [I] items.size (fun i v => items[items.size - 1 - i]? = some v) (fun i h => i ≤ items.size ∧ RT.IsRt h I t ((items.size : Int) - 1 - (i : Int)) ∧ IsTup h t items) where
  sub := fun b hb => by simp at hb; simp [hb]
  frame := fun _ _ _ x hk => ⟨x.1, x.2.1.at fun o e => hk I (by simp) o e, let ⟨o, ho, r⟩ := x.2.2; ⟨o, hk t (by simp) o ho, r⟩⟩
  item := fun i s Q E hi x hQ => by
    have e : (items.size : Int) - 1 - (i : Int) = ((items.size - 1 - i : Nat) : Int) := by omega
    have hit := x.2.1
    rw [e] at hit
    have hx : items[items.size - 1 - i]? = some (items[items.size - 1 - i]'(by omega)) := Array.getElem?_eq_getElem (by omega)
    refine RT.next_rt_item hit x.2.2 hx sz fun h' st' sb => ?_
    have e2 : ((items.size - 1 - i : Nat) : Int) - 1 = (items.size : Int) - 1 - ((i + 1 : Nat) : Int) := by omega
    rw [e2] at st'
    exact hQ _ h' (s.toks + 1) hx ⟨hi, st', let ⟨o, ho, r⟩ := x.2.2; ⟨o, (sb.2 t hne).trans ho, r⟩⟩ fun b o hb eo => (sb.2 b fun h => hb (by simp [h])).trans eo
  done := fun s Q E x hQ => by
    have e : (items.size : Int) - 1 - (items.size : Int) = -1 := by omega
    have hit := x.2.1
    rw [e] at hit
    exact RT.next_rt_end hh hit fun h' he' => hQ h' s.toks fun b o hb eo => he' b o (fun h => hb (by simp [h])) eo
  self := fun _ _ _ _ x hQ => RT.iter_rt x.2.1 hQ
end
def tRevTu (K : PySem.W.Frag) (te : TE) : TE := fun σ H Q => te σ H fun v H1 => ∃ (a : Addr) (xs : List V), v = .ref a ∧ SqT K H1 a xs ∧ xs.length < 1000000 ∧ ∀ q, H1 q = none → Q (.ref q) (upd H1 q (.lst xs.reverse))
section
variable {X : Cx}
theorem pe_listRevT {e : Expr} {te : TE} {p p2 pos pos2 : Pos} (hc : X.calm = true) (hg : Gl X "list") (hm : X.mg "list" = none) (hg2 : Gl X "reversed") (hm2 : X.mg "reversed" = none) (he : PE X e te)
    (hs : starEach [e] X.env = (false, eval e X.env) :: starEach [] X.env := by rfl)
    (hs2 : starEach [.Call (.Name "reversed" p2) [e] [] pos2] X.env = (false, eval (.Call (.Name "reversed" p2) [e] [] pos2) X.env) :: starEach [] X.env := by rfl) :
    PE X (.Call (.Name "list" p) [.Call (.Name "reversed" p2) [e] [] pos2] [] pos) (tRevTu X.K te) := by
  refine ⟨fun pins s σ H Q I h => ?_⟩
  refine Call_ (ld_blt I hg hm boot_list (PyProof.Rows.callWith_type1 (args_cons (Call_ (ld_blt I hg2 hm2 PyProof.Rows.boot_reversed (PyProof.Rows.callWith_type1 (args_cons (thn (he.run pins s σ H _ I h) fun u s1 ⟨v, H1, I1, r1, q1⟩ => args_nil ?_) hs) hs rfl))) hs2) hs2 rfl))
  obtain ⟨a, xs, ev, hq, hlen, q⟩ := q1
  subst ev
  obtain rfl : u = Value.ref a := r1
  obtain ⟨its, rv, pl, hz⟩ := I1.tuple hq
  obtain ⟨ol, hol, _⟩ := id pl
  have hlen2 : its.toArray.size < 1000000 := by rw [List.size_toArray, ← rv.length]; exact hlen
  have hn : its.toArray.size ≤ sizeLine := by have := line_big; omega
  have hne : a ≠ s1.heap.objs.size := Nat.ne_of_lt (Heap.lt_size hol)
  have hcalm := I1.ok.hd hc
  refine RT.call_reversed_tup pl (fun A E Q k => len_tuple pl (by have := line63; omega) k) (args_nil ?_)
  have up : ∀ b o, s1.heap.get? b = some o → (s1.heap.push (RT.rtObj a ((its.toArray.size : Int) - 1))).get? b = some o := fun b o e => Heap.get?_push_of_some _ e
  have hit : RT.IsRt (s1.heap.push (RT.rtObj a ((its.toArray.size : Int) - 1))) s1.heap.objs.size a ((its.toArray.size : Int) - 1) := ⟨_, Heap.get?_push_size _ rfl, rfl, rfl⟩
  have e0 : ((its.toArray.size : Nat) : Int) - 1 - ((0 : Nat) : Int) = (its.toArray.size : Int) - 1 := by omega
  have sz : (s1.heap.push (RT.rtObj a ((its.toArray.size : Int) - 1))).objs.size = s1.heap.objs.size + 1 := Heap.size_push ..
  have ht2 : IsTup (s1.heap.push (RT.rtObj a ((its.toArray.size : Int) - 1))) a its.toArray := let ⟨o, ho, r⟩ := pl; ⟨o, up a o ho, r⟩
  refine fed_call (s := { s1 with heap := s1.heap.push (RT.rtObj a ((its.toArray.size : Int) - 1)), toks := s1.toks + 1 + 1 }) (T := "reversed") ((walks_rt (A := X.A.in1.in1) hcalm s1.heap.objs.size a hne its.toArray hn).toS) hit.typeIs (by decide) (by decide)
    (fun s' Q E st ty k => hint_rt (by rw [← e0]; exact st.2.1) st.2.2 (by omega) k) ⟨Nat.zero_le _, by rw [e0]; exact hit, ht2⟩ (fun b hb => ?_) (by simp) hn fun s' acc' c' m hS' ha => ?_
  · show b < (s1.heap.push (RT.rtObj a ((its.toArray.size : Int) - 1))).objs.size
    rw [sz]
    rcases List.mem_cons.mp hb with rfl | hb
    · exact Nat.lt_succ_self _
    · obtain rfl := List.mem_singleton.mp hb
      exact Nat.lt_succ_of_lt (Heap.lt_size hol)
  · rw [Moved.eq_with m]
    have sz' : ({ s1 with heap := s1.heap.push (RT.rtObj a ((its.toArray.size : Int) - 1)), toks := s1.toks + 1 + 1 } : Shared).heap.objs.size = s1.heap.objs.size + 1 := sz
    rw [sz'] at m hS' ⊢
    have keep : ∀ b o, s1.heap.get? b = some o → s'.heap.get? b = some o := fun b o e => by
      have lt := Heap.lt_size e
      refine m.heap b o (fun hm => ?_) (Heap.get?_push_of_some _ (up b o e))
      rcases List.mem_cons.mp hm with z | z
      · have z2 : b = s1.heap.objs.size + 1 := by first | exact z.trans sz' | exact z
        rw [z2] at lt
        exact absurd lt (Nat.not_lt.mpr (Nat.le_succ _))
      · have z : b = s1.heap.objs.size := List.mem_singleton.mp z
        rw [z] at lt
        exact absurd lt (Nat.lt_irrefl _)
    refine ⟨.ref _, upd H1 (s1.heap.objs.size + 1) (.lst xs.reverse), I1.laid (t' := s'.toks) keep (Nat.le_succ _) ⟨by rw [List.length_reverse]; have := line_big; omega, acc'.toList, c', RT.vals_rev rv ha, ?_⟩, rfl, q _ (I1.hok.fresh (Nat.le_succ _))⟩
    rw [Array.toArray_toList]
    exact hS'
end
section
variable {X : Cv}
def sRevT : List D → (D → Prop) → Prop := fun ds Q => ∃ xs, ds = [.tup xs] ∧ isFzL xs = true ∧ xs.length < 1000000 ∧ Q (.lst true xs.reverse)
theorem e_revT {xs : List D} {Q : D → Prop} : sRevT [.tup xs] Q ↔ isFzL xs = true ∧ xs.length < 1000000 ∧ Q (.lst true xs.reverse) :=
  ⟨fun ⟨_, e, h⟩ => by cases e; exact h, fun h => ⟨_, rfl, h⟩⟩
theorem ve_listRevT {e : Expr} {r : Option Nat} {t : VTE} {p p2 pos pos2 : Pos} (hc : X.calm = true) (hg : Gl X.toCx "list") (hm : X.mg "list" = none) (hg2 : Gl X.toCx "reversed") (hm2 : X.mg "reversed" = none) (h : VG X e r t)
    (hs : starEach [e] X.env = (false, eval e X.env) :: starEach [] X.env := by rfl)
    (hs2 : starEach [.Call (.Name "reversed" p2) [e] [] pos2] X.env = (false, eval (.Call (.Name "reversed" p2) [e] [] pos2) X.env) :: starEach [] X.env := by rfl) :
    VE X (.Call (.Name "list" p) [.Call (.Name "reversed" p2) [e] [] pos2] [] pos) (vOp sRevT [r] (va1 t)) := by
  obtain ⟨t', a1, a2⟩ := h.ex
  refine ⟨fun W => tRevTu X.K (t' W), fun W tk => pe_listRevT hc hg hm hg2 hm2 (a1 W tk) hs hs2, fun b σ H ε T Tv W N Q Q' I q k x => ?_⟩
  refine a2 b σ H ε T Tv W N _ _ I q (fun d v ε1 H1 J hd z => ?_) x
  have op : OpN X.K (fun vs H Q => ∃ x, vs = [x] ∧ ∃ a xs, x = .ref a ∧ SqT X.K H a xs ∧ xs.length < 1000000 ∧ ∀ p, H p = none → Q (.ref p) (upd H p (.lst xs.reverse))) sRevT := OpN.mk fun G H ds vs F Q Q' hs r q k => by
    obtain ⟨xs, rfl, hf, hl, q⟩ := q
    obtain ⟨v, rfl, rx⟩ := r.one'
    obtain ⟨a, us, rfl, s, rl⟩ := rx
    have := rl.fz hf
    subst this
    exact ⟨_, rfl, a, us, rfl, SqT.of (hs _ _ s), by rw [← rl.len]; exact hl, fun p hp => k _ _ _ (.lst rl.rev hp) q⟩
  obtain ⟨v', e', z'⟩ := op.run (ds := [d]) (vs := [v]) (rs := [r]) (Q := Q) (Q' := Q') I.lenT rfl J hd z k
  obtain ⟨rfl, _⟩ := List.cons.inj e'
  exact z'
end
end VL
/-! VL41: rows, and the graph of rows. -/
namespace VL
open PySem PySem.Spec PyProof.Rows L2 VL
inductive Rw where
  | sum (n : Nat) (x : Cs) (a : Opd) (s : Cs) (b : Opd)
  | test (n : Nat) (a : Opd) (s : Cs) (b : Opd) (to : Nat)
  | jump (n to : Nat)
  | fin (n : Nat)
def rwL : Rw → List D
  | .sum n x a s b => [.int (n : Int), .str cSum, .str x, opD a, .str s, opD b]
  | .test n a s b to => [.int (n : Int), .str cTest, opD a, .str s, opD b, .int (to : Int)]
  | .jump n to => [.int (n : Int), .str cJump, .int (to : Int)]
  | .fin n => [.int (n : Int), .str cEnd]
def rwD (r : Rw) : D := .tup (rwL r)
theorem rwD_fz (r : Rw) : isFz (rwD r) = true := by cases r <;> simp [rwD, rwL, isFz, isFzL, opD_fz]
theorem rws_fz (rs : List Rw) : isFzL (rs.map rwD) = true := by rw [isFzL_all]; simp [rwD_fz]
theorem rws_frz (rs : List Rw) : frzL (rs.map rwD) = rs.map rwD := frzL_id (rws_fz rs)
theorem rwD_sum {n : Nat} {x : Cs} {a : Opd} {s : Cs} {b : Opd} : rwD (.sum n x a s b) = .tup [.int (n : Int), .str cSum, .str x, opD a, .str s, opD b] := rfl
theorem rwD_test {n : Nat} {a : Opd} {s : Cs} {b : Opd} {to : Nat} : rwD (.test n a s b to) = .tup [.int (n : Int), .str cTest, opD a, .str s, opD b, .int (to : Int)] := rfl
theorem rwD_jump {n to : Nat} : rwD (.jump n to) = .tup [.int (n : Int), .str cJump, .int (to : Int)] := rfl
theorem rwD_fin {n : Nat} : rwD (.fin n) = .tup [.int (n : Int), .str cEnd] := rfl
theorem opD_inj : ∀ {a b : Opd}, opD a = opD b → a = b
  | .inl a, .inl b, h => by rw [D.int.inj h]
  | .inr a, .inr b, h => by rw [D.str.inj h]
  | .inl a, .inr b, h => by cases h
  | .inr a, .inl b, h => by cases h
theorem rw_inj {a b : Rw} (h : rwD a = rwD b) : a = b := by
  cases a <;> cases b <;> simp [rwD, rwL] at h
  · obtain ⟨h1, h2, h3, h4, h5⟩ := h
    rw [Int.ofNat_inj.mp h1, h2, opD_inj h3, h4, opD_inj h5]
  · obtain ⟨h1, h2, h3, h4, h5⟩ := h
    rw [Int.ofNat_inj.mp h1, opD_inj h2, h3, opD_inj h4, Int.ofNat_inj.mp h5]
  · rw [Int.ofNat_inj.mp h.1, Int.ofNat_inj.mp h.2]
  · rw [Int.ofNat_inj.mp h]
theorem rws_inj {a b : List Rw} (h : a.map rwD = b.map rwD) : a = b := (List.map_inj_right (fun _ _ h => rw_inj h)).mp h
theorem ix_rws {rs : List Rw} {k : Nat} {r : Rw} (h : rs[k]? = some r) {P : D → Prop} : (∃ d, ((ixN rs.length (k : Int)).bind fun j => (rs.map rwD)[j]?) = some d ∧ isFz d = true ∧ P d) ↔ P (rwD r) :=
  ix_at (by rw [List.getElem?_map, h]; rfl) (rwD_fz r) (by simp)
def Rw.num : Rw → Nat
  | .sum n _ _ _ _ => n
  | .test n _ _ _ _ => n
  | .jump n _ => n
  | .fin n => n
def Rw.tos : Rw → List Nat
  | .test _ _ _ _ to => [to]
  | .jump _ to => [to]
  | _ => []
def Rw.falls : Rw → Bool
  | .sum _ _ _ _ _ => true
  | .test _ _ _ _ _ => true
  | _ => false
def Rw.good : Rw → Bool
  | .sum _ x a s b => Cs.good x && (a.good && (Cs.good s && b.good))
  | .test _ a s b _ => a.good && (Cs.good s && b.good)
  | _ => true
def nums (rs : List Rw) : List Nat := rs.map Rw.num
theorem nums_len (rs : List Rw) : (nums rs).length = rs.length := by simp [nums]
structure RwOk (rs : List Rw) : Prop where
  pos : 0 < rs.length
  few : rs.length < 10000
  nd : (nums rs).Nodup
  tos : ∀ r ∈ rs, ∀ t ∈ r.tos, t ∈ nums rs
  good : ∀ r ∈ rs, r.good = true
  last : ∀ (k : Nat) r, rs[k]? = some r → r.falls = true → k + 1 < rs.length
/-! ### where one comes to along jumps -/
def nxJ (rs : List Rw) (k : Nat) : Option Nat := match rs[k]? with
  | some (.jump _ to) => some ((nums rs).idxOf to)
  | _ => none
def stopJ (nx : Nat → Option Nat) : Nat → List Nat → Nat → Nat
  | 0, _, k => k
  | f + 1, seen, k => match nx k with
    | none => k
    | some b => if k ∈ seen then k else stopJ nx f (seen ++ [k]) b
def ringJ (nx : Nat → Option Nat) (c : Nat) : Nat → Nat → Nat → Nat
  | 0, m, _ => m
  | f + 1, m, h => if h = c then m else ringJ nx c f (min m h) ((nx h).getD 0)
def comeTo (rs : List Rw) (k : Nat) : Nat := match nxJ rs (stopJ (nxJ rs) (rs.length + 1) [] k) with
  | none => stopJ (nxJ rs) (rs.length + 1) [] k
  | some b => ringJ (nxJ rs) (stopJ (nxJ rs) (rs.length + 1) [] k) (rs.length + 1) (stopJ (nxJ rs) (rs.length + 1) [] k) b
theorem nx_lt {rs : List Rw} (R : RwOk rs) {k b : Nat} (h : nxJ rs k = some b) : b < rs.length := by
  unfold nxJ at h
  split at h
  · rename_i n to e
    cases h
    rw [← nums_len]
    exact List.idxOf_lt_length_iff.mpr (R.tos _ (List.mem_of_getElem? e) to (by simp [Rw.tos]))
  · cases h
theorem stop_lt {nx : Nat → Option Nat} {n : Nat} (hx : ∀ k b, nx k = some b → b < n) : ∀ (f : Nat) (seen : List Nat) (k : Nat), k < n → stopJ nx f seen k < n
  | 0, _, _, h => h
  | f + 1, seen, k, h => by
    unfold stopJ
    split
    · exact h
    · rename_i b e
      split
      · exact h
      · exact stop_lt hx f _ b (hx k b e)
theorem ring_lt {nx : Nat → Option Nat} {n c : Nat} : ∀ (f m h : Nat), m < n → ringJ nx c f m h < n
  | 0, _, _, h => h
  | f + 1, m, h, hm => by
    unfold ringJ
    split
    · exact hm
    · exact ring_lt f _ _ (by omega)
theorem come_lt {rs : List Rw} (R : RwOk rs) {k : Nat} (h : k < rs.length) : comeTo rs k < rs.length := by
  have h1 := stop_lt (fun k b e => nx_lt R (k := k) e) (rs.length + 1) [] k h
  unfold comeTo
  split
  · exact h1
  · exact ring_lt _ _ _ h1
theorem come_none {rs : List Rw} {k : Nat} (h : nxJ rs k = none) : comeTo rs k = k := by
  have e : stopJ (nxJ rs) (rs.length + 1) [] k = k := by
    show (match nxJ rs k with | none => k | some b => if k ∈ [] then k else stopJ (nxJ rs) rs.length ([] ++ [k]) b) = k
    rw [h]
  unfold comeTo
  rw [e, h]
theorem come_self {rs : List Rw} {k : Nat} (hk : 0 < rs.length) (h : nxJ rs k = some k) : comeTo rs k = k := by
  obtain ⟨n, hn⟩ : ∃ n, rs.length = n + 1 := ⟨rs.length - 1, by omega⟩
  have e : stopJ (nxJ rs) (rs.length + 1) [] k = k := by
    show (match nxJ rs k with | none => k | some b => if k ∈ [] then k else stopJ (nxJ rs) rs.length ([] ++ [k]) b) = k
    rw [h, hn]
    show (match nxJ rs k with | none => k | some b => if k ∈ [k] then k else stopJ (nxJ rs) n ([k] ++ [k]) b) = k
    rw [h]
    simp
  unfold comeTo
  rw [e, h]
  show (if k = k then k else _) = k
  rw [if_pos rfl]
theorem come_one {rs : List Rw} {k b : Nat} (hk : 0 < rs.length) (h : nxJ rs k = some b) (hb : nxJ rs b = none) : comeTo rs k = b := by
  obtain ⟨n, hn⟩ : ∃ n, rs.length = n + 1 := ⟨rs.length - 1, by omega⟩
  have e : stopJ (nxJ rs) (rs.length + 1) [] k = b := by
    show (match nxJ rs k with | none => k | some b => if k ∈ [] then k else stopJ (nxJ rs) rs.length ([] ++ [k]) b) = b
    rw [h, hn]
    show (match nxJ rs b with | none => b | some z => if b ∈ [k] then b else stopJ (nxJ rs) n ([k] ++ [b]) z) = b
    rw [hb]
  unfold comeTo
  rw [e, hb]
theorem come_two {rs : List Rw} {k b : Nat} (hk : 1 < rs.length) (h : nxJ rs k = some b) (hb : nxJ rs b = some b) : comeTo rs k = b := by
  obtain ⟨n, hn⟩ : ∃ n, rs.length = n + 1 + 1 := ⟨rs.length - 2, by omega⟩
  have e : stopJ (nxJ rs) (rs.length + 1) [] k = b := by
    show (match nxJ rs k with | none => k | some b => if k ∈ [] then k else stopJ (nxJ rs) rs.length ([] ++ [k]) b) = b
    rw [h, hn]
    show (match nxJ rs b with | none => b | some z => if b ∈ [k] then b else stopJ (nxJ rs) (n + 1) ([k] ++ [b]) z) = b
    rw [hb]
    by_cases q : b ∈ [k]
    · show (if b ∈ [k] then b else _) = b
      rw [if_pos q]
    · show (if b ∈ [k] then b else _) = b
      rw [if_neg q]
      show (match nxJ rs b with | none => b | some z => if b ∈ [k] ++ [b] then b else stopJ (nxJ rs) n ([k] ++ [b] ++ [b]) z) = b
      rw [hb]
      simp
  unfold comeTo
  rw [e, hb]
  show (if b = b then b else _) = b
  rw [if_pos rfl]
/-- what is known on the way: those seen stand one behind the other -/
structure JInv (rs : List Rw) (k0 : Nat) (seen : List Nat) (k : Nat) : Prop where
  nd : seen.Nodup
  rng : ∀ x ∈ seen, x < rs.length
  lt : k < rs.length
  ch : ∀ (i a : Nat), seen[i]? = some a → nxJ rs a = (seen ++ [k])[i + 1]?
  val : stopJ (nxJ rs) (rs.length + 1 - seen.length) seen k = stopJ (nxJ rs) (rs.length + 1) [] k0
theorem JInv.start {rs : List Rw} {k : Nat} (h : k < rs.length) : JInv rs k [] k := ⟨List.nodup_nil, fun _ z => (nomatch z), h, fun i a z => (by simp at z), rfl⟩
theorem JInv.len {rs : List Rw} {k0 k : Nat} {seen : List Nat} (I : JInv rs k0 seen k) : seen.length ≤ rs.length := nodup_len I.nd I.rng
theorem JInv.more {rs : List Rw} (R : RwOk rs) {k0 k b : Nat} {seen : List Nat} (I : JInv rs k0 seen k) (h : nxJ rs k = some b) (hk : k ∉ seen) : JInv rs k0 (seen ++ [k]) b ∧ seen.length < rs.length := by
  have nd : (seen ++ [k]).Nodup := List.nodup_append.mpr ⟨I.nd, by simp, fun x hx y hy e => by rw [List.mem_singleton.mp hy] at e; exact hk (e ▸ hx)⟩
  have rg : ∀ x ∈ seen ++ [k], x < rs.length := fun x hx => by
    rcases List.mem_append.mp hx with hx | hx
    · exact I.rng x hx
    · rw [List.mem_singleton.mp hx]; exact I.lt
  have l := nodup_len nd rg
  rw [List.length_append, List.length_singleton] at l
  refine ⟨⟨nd, rg, nx_lt R h, fun i a e => ?_, ?_⟩, by omega⟩
  · have hi := (List.getElem?_eq_some_iff.mp e).1
    rw [List.length_append, List.length_singleton] at hi
    by_cases q : i < seen.length
    · rw [List.getElem?_append_left q] at e
      rw [I.ch i a e]
      rw [List.getElem?_append_left (l₁ := seen ++ [k]) (by simp; omega)]
    · have qi : i = seen.length := by omega
      subst qi
      rw [List.getElem?_append_right (Nat.le_refl _)] at e
      simp at e
      subst e
      rw [h]
      simp
  · rw [← I.val]
    obtain ⟨f, hf⟩ : ∃ f, rs.length + 1 - seen.length = f + 1 := ⟨rs.length - seen.length, by omega⟩
    have e2 : rs.length + 1 - (seen ++ [k]).length = f := by rw [List.length_append, List.length_singleton]; omega
    rw [e2, hf]
    show _ = (match nxJ rs k with | none => k | some b => if k ∈ seen then k else stopJ (nxJ rs) f (seen ++ [k]) b)
    rw [h]
    show _ = (if k ∈ seen then k else stopJ (nxJ rs) f (seen ++ [k]) b)
    rw [if_neg hk]
theorem JInv.stop {rs : List Rw} {k0 k : Nat} {seen : List Nat} (I : JInv rs k0 seen k) (h : nxJ rs k = none ∨ k ∈ seen) : stopJ (nxJ rs) (rs.length + 1) [] k0 = k := by
  rw [← I.val]
  have := I.len
  obtain ⟨f, hf⟩ : ∃ f, rs.length + 1 - seen.length = f + 1 := ⟨rs.length - seen.length, by omega⟩
  rw [hf]
  show (match nxJ rs k with | none => k | some b => if k ∈ seen then k else stopJ (nxJ rs) f (seen ++ [k]) b) = k
  split
  · rfl
  · rename_i b e
    rcases h with h | h
    · rw [h] at e; cases e
    · rw [if_pos h]
theorem JInv.end_none {rs : List Rw} {k0 k : Nat} {seen : List Nat} (I : JInv rs k0 seen k) (h : nxJ rs k = none) : comeTo rs k0 = k := by
  unfold comeTo
  rw [I.stop (.inl h), h]
/-- the ring: from its place in those seen on to their end -/
structure KInv (rs : List Rw) (k0 c m h i : Nat) (seen : List Nat) (j : Nat) : Prop where
  at_ : seen[j]? = some c
  le : j < i ∧ i ≤ seen.length
  here : (seen ++ [c])[i]? = some h
  val : ringJ (nxJ rs) c (rs.length + 1 - (i - j - 1)) m h = comeTo rs k0
theorem JInv.ring {rs : List Rw} {k0 k b : Nat} {seen : List Nat} (I : JInv rs k0 seen k) (hk : k ∈ seen) (h : nxJ rs k = some b) : ∃ j, KInv rs k0 k k b (j + 1) seen j := by
  obtain ⟨j, hj⟩ := List.mem_iff_getElem?.mp hk
  have e := I.ch j k hj
  rw [h] at e
  refine ⟨j, hj, ⟨by omega, (List.getElem?_eq_some_iff.mp hj).1⟩, e.symm, ?_⟩
  have e2 : j + 1 - j - 1 = 0 := by omega
  rw [e2]
  unfold comeTo
  rw [I.stop (.inr hk), h]
  rfl
theorem KInv.next {rs : List Rw} (R : RwOk rs) {k0 c m h i j : Nat} {seen : List Nat} (J : JInv rs k0 seen c) (I : KInv rs k0 c m h i seen j) (hn : h ≠ c) : i < seen.length ∧ ∃ b, nxJ rs h = some b ∧ KInv rs k0 c (min m h) b (i + 1) seen j := by
  have hi : i < seen.length := by
    by_cases q : i < seen.length
    · exact q
    · exfalso
      have qi : i = seen.length := by have := I.le.2; omega
      have := I.here
      rw [qi, List.getElem?_append_right (Nat.le_refl _)] at this
      simp at this
      exact hn this.symm
  have hh : seen[i]? = some h := by have := I.here; rwa [List.getElem?_append_left hi] at this
  have e := J.ch i h hh
  have hlt : i + 1 < (seen ++ [c]).length := by simp; omega
  rw [List.getElem?_eq_getElem hlt] at e
  refine ⟨hi, _, e, I.at_, ⟨by have := I.le.1; omega, hi⟩, List.getElem?_eq_getElem hlt, ?_⟩
  rw [← I.val]
  have l := J.len
  obtain ⟨f, hf⟩ : ∃ f, rs.length + 1 - (i - j - 1) = f + 1 := ⟨rs.length - (i - j - 1), by omega⟩
  have e2 : rs.length + 1 - (i + 1 - j - 1) = f := by have := I.le.1; omega
  rw [e2, hf]
  show _ = (if h = c then m else ringJ (nxJ rs) c f (min m h) ((nxJ rs h).getD 0))
  rw [if_neg hn, e]
  rfl
theorem KInv.stop {rs : List Rw} {k0 c m h i j : Nat} {seen : List Nat} (J : JInv rs k0 seen c) (I : KInv rs k0 c m h i seen j) (hn : h = c) : comeTo rs k0 = m := by
  rw [← I.val]
  have l := J.len
  have := I.le
  obtain ⟨f, hf⟩ : ∃ f, rs.length + 1 - (i - j - 1) = f + 1 := ⟨rs.length - (i - j - 1), by omega⟩
  rw [hf]
  show (if h = c then m else _) = m
  rw [if_pos hn]
/-! ### the graph -/
def nodeAt (rs : List Rw) (k : Nat) : Nd := match rs[k]? with
  | some (.sum _ x a s b) => .sum x a s b (comeTo rs (k + 1))
  | some (.test _ a s b to) => .test a s b (comeTo rs ((nums rs).idxOf to)) (comeTo rs (k + 1))
  | some (.fin _) => .fin
  | _ => .spin
def rawOf (rs : List Rw) : List Nd := (List.range rs.length).map (nodeAt rs)
def graphR (rs : List Rw) : List Nd := graphAt (rawOf rs) (comeTo rs 0)
theorem rawOf_len (rs : List Rw) : (rawOf rs).length = rs.length := by simp [rawOf]
theorem rawOf_at {rs : List Rw} {k : Nat} (h : k < rs.length) : (rawOf rs)[k]? = some (nodeAt rs k) := by simp [rawOf, h]
theorem place_lt {rs : List Rw} {t : Nat} (h : t ∈ nums rs) : (nums rs).idxOf t < rs.length := by rw [← nums_len]; exact List.idxOf_lt_length_iff.mpr h
theorem node_ok {rs : List Rw} (R : RwOk rs) {k : Nat} (h : k < rs.length) : (nodeAt rs k).ok rs.length ∧ (nodeAt rs k).good = true := by
  obtain ⟨r, hr⟩ : ∃ r, rs[k]? = some r := ⟨_, List.getElem?_eq_getElem h⟩
  have hm := List.mem_of_getElem? hr
  have hg := R.good r hm
  unfold nodeAt
  rw [hr]
  cases r with
  | sum n x a s b =>
    refine ⟨fun g hg => ?_, by simpa [Rw.good, Nd.good] using hg⟩
    have hg : g ∈ [comeTo rs (k + 1)] := hg
    rw [List.mem_singleton.mp hg]
    exact come_lt R (R.last k _ hr rfl)
  | test n a s b to =>
    refine ⟨fun g hg => ?_, by simpa [Rw.good, Nd.good] using hg⟩
    have hg : g ∈ [comeTo rs (k + 1), comeTo rs ((nums rs).idxOf to)] := hg
    rcases List.mem_cons.mp hg with hg | hg
    · rw [hg]; exact come_lt R (R.last k _ hr rfl)
    · rw [List.mem_singleton.mp hg]
      exact come_lt R (place_lt (R.tos _ hm to (by simp [Rw.tos])))
  | jump n to => exact ⟨fun g hg => (nomatch hg), rfl⟩
  | fin n => exact ⟨fun g hg => (nomatch hg), rfl⟩
theorem raw_ok {rs : List Rw} (R : RwOk rs) : (∀ x ∈ rawOf rs, x.ok (rawOf rs).length) ∧ ∀ x ∈ rawOf rs, x.good = true := by
  rw [rawOf_len]
  refine ⟨fun x hx => ?_, fun x hx => ?_⟩ <;>
  · unfold rawOf at hx
    obtain ⟨k, hk, rfl⟩ := List.mem_map.mp hx
    first | exact (node_ok R (List.mem_range.mp hk)).1 | exact (node_ok R (List.mem_range.mp hk)).2
theorem graphR_ok {rs : List Rw} (R : RwOk rs) : GOk (graphR rs) ∧ (graphR rs).length ≤ rs.length := by
  have := graph_okAt (raw := rawOf rs) (st := comeTo rs 0) (by rw [rawOf_len]; exact come_lt R R.pos) (raw_ok R).1 (raw_ok R).2
  rw [rawOf_len] at this
  exact this
/-! ### a graph out of rows that are laid out of it -/
theorem ren_ren {f h : Nat → Nat} {x : Nd} (e : ∀ g ∈ goals x, h (f g) = g) : (x.ren f).ren h = x := by
  cases x with
  | sum x a s b to => show Nd.sum x a s b (h (f to)) = _; rw [e to (by simp [goals])]
  | test a s b y n => show Nd.test a s b (h (f y)) (h (f n)) = _; rw [e y (by simp [goals]), e n (by simp [goals])]
  | fin => rfl
  | spin => rfl
theorem laid_graph {g R : List Nd} {p : Nat → Nat} (G : GOk g) (hR : ∀ x ∈ R, x.ok R.length) (hp : ∀ k x, g[k]? = some x → R[p k]? = some (x.ren p)) (inj : ∀ i j, i < g.length → j < g.length → p i = p j → i = j) : graphAt R (p 0) = g := by
  have lt : ∀ k, k < g.length → p k < R.length := fun k hk => (List.getElem?_eq_some_iff.mp (hp k _ (List.getElem?_eq_getElem hk))).1
  have rn : Ren (glOf g) (glOf R) (· < g.length) p := ⟨inj, fun x hx => by
    have e := hp x _ (List.getElem?_eq_getElem hx)
    unfold glOf
    rw [e, List.getElem?_eq_getElem hx]
    exact goals_ren p g[x], fun x hx t ht => by
    unfold glOf at ht
    rw [List.getElem?_eq_getElem hx] at ht
    exact G.ok _ (List.getElem_mem hx) t ht⟩
  have o := orderAt_map (n' := R.length) rn G.pos G.pos rn.clo (lt 0 G.pos) fun x hx t ht => by
    unfold glOf at ht
    rw [List.getElem?_eq_getElem hx] at ht
    exact hR _ (List.getElem_mem hx) t ht
  rw [G.can] at o
  have nd : ((List.range g.length).map p).Nodup := by
    rw [List.nodup_iff_pairwise_ne, List.pairwise_map]
    refine List.Pairwise.imp_of_mem ?_ (List.nodup_range (n := g.length))
    intro a b ha hb hab e
    exact hab (inj a b (List.mem_range.mp ha) (List.mem_range.mp hb) e)
  have ix : ∀ k, k < g.length → ((List.range g.length).map p).idxOf (p k) = k := fun k hk => by
    have := nd.idxOf_getElem k (by simpa using hk)
    simpa using this
  unfold graphAt
  rw [o]
  apply List.ext_getElem
  · simp
  · intro k h1 h2
    simp only [List.length_map, List.length_range] at h1
    simp only [List.getElem_map, List.getElem_range]
    rw [hp k _ (List.getElem?_eq_getElem h2)]
    exact ren_ren fun t ht => ix t (G.ok _ (List.getElem_mem h2) t ht)
/-- four names, in order -/
def NmsOk (nm : List Cs) : Prop := nm.length = 4 ∧ ∀ s ∈ nm, Cs.good s = true
def strsD (nm : List Cs) : List D := nm.map D.str
theorem strs_fz (nm : List Cs) : isFzL (strsD nm) = true := by rw [isFzL_all]; simp [strsD, isFz]
theorem strs_frz (nm : List Cs) : frzL (strsD nm) = strsD nm := frzL_id (strs_fz nm)
theorem strs_len (nm : List Cs) : (strsD nm).length = nm.length := by simp [strsD]
theorem ix_strs {m : Bool} {nm : List Cs} (h : nm.length = 4) {i : Nat} (hi : i < 4) : ∃ s ∈ nm, ixD (.lst m (strsD nm)) (.int (i : Int)) = some (.str s) := by
  refine ⟨nm[i], List.getElem_mem _, ?_⟩
  show (ixN (strsD nm).length (i : Int)).bind (fun j => (strsD nm)[j]?) = _
  rw [strs_len, ixN_nat (by omega)]
  show (strsD nm)[i]? = _
  unfold strsD
  rw [List.getElem?_map, List.getElem?_eq_getElem (by omega)]
  rfl
end VL
/-! VL42: rows laid out of a graph, block by block; the graph of these is the graph. -/
namespace VL
open PySem PySem.Spec PyProof.Rows L2 VL
/-- where a node falls to -/
def lastG : Nd → Option Nat
  | .sum _ _ _ _ to => some to
  | .test _ _ _ _ n => some n
  | _ => none
def firstRow (f : Nat → Nat) (k : Nat) : Nd → Rw
  | .sum x a s b _ => .sum (f k) x a s b
  | .test a s b y _ => .test (f k) a s b (f y)
  | .fin => .fin (f k)
  | .spin => .jump (f k) (f k)
def blk (f : Nat → Nat) (jf : Nat → Nd → Bool) (k : Nat) (x : Nd) : List Rw := firstRow f k x :: (match lastG x with
  | some t => if jf k x then [.jump (f k + 1) (f t)] else []
  | none => [])
def layB (f : Nat → Nat) (jf : Nat → Nd → Bool) : Nat → List Nd → List Rw
  | _, [] => []
  | k, x :: xs => blk f jf k x ++ layB f jf (k + 1) xs
section
variable {f : Nat → Nat} {jf : Nat → Nd → Bool}
theorem firstRow_num (k : Nat) (x : Nd) : (firstRow f k x).num = f k := by cases x <;> rfl
theorem layB_app : ∀ (a b : List Nd) (k : Nat), layB f jf k (a ++ b) = layB f jf k a ++ layB f jf (k + a.length) b
  | [], b, k => rfl
  | x :: a, b, k => by
    show blk f jf k x ++ layB f jf (k + 1) (a ++ b) = (blk f jf k x ++ layB f jf (k + 1) a) ++ layB f jf (k + (a.length + 1)) b
    rw [layB_app a b (k + 1), List.append_assoc]
    congr 3
    omega
theorem blk_len (k : Nat) (x : Nd) : 1 ≤ (blk f jf k x).length ∧ (blk f jf k x).length ≤ 2 := by
  unfold blk
  split
  · split <;> simp
  · simp
theorem blk_num {k : Nat} {x : Nd} {r : Rw} (h : r ∈ blk f jf k x) : f k ≤ r.num ∧ r.num < f k + (blk f jf k x).length := by
  have hl := (blk_len (f := f) (jf := jf) k x).1
  unfold blk at h ⊢
  rcases List.mem_cons.mp h with rfl | h
  · rw [firstRow_num]
    simp
  · split at h
    · split at h
      · rename_i hj
        rw [List.mem_singleton.mp h, if_pos hj]
        simp [Rw.num]
      · cases h
    · cases h
theorem blk_pw (k : Nat) (x : Nd) : (nums (blk f jf k x)).Pairwise (· < ·) := by
  unfold blk nums
  split
  · split
    · show [(firstRow f k x).num, f k + 1].Pairwise (· < ·)
      rw [firstRow_num]
      simp
    · simp
  · simp
theorem layB_num : ∀ (xs : List Nd) (k : Nat), (∀ (i : Nat) x, xs[i]? = some x → i + 1 < xs.length → f (k + i) + (blk f jf (k + i) x).length ≤ f (k + i + 1)) → (∀ r ∈ layB f jf k xs, f k ≤ r.num) ∧ (nums (layB f jf k xs)).Pairwise (· < ·)
  | [], k, _ => ⟨fun r h => (nomatch h), List.Pairwise.nil⟩
  | x :: xs, k, h => by
    have ih := layB_num xs (k + 1) fun i y hy hl => by
      have := h (i + 1) y hy (by simp; omega)
      have e : k + (i + 1) = k + 1 + i := by omega
      rw [e] at this
      exact this
    have h0 : xs ≠ [] → f k + (blk f jf k x).length ≤ f (k + 1) := fun ne => h 0 x rfl (by cases xs with | nil => exact absurd rfl ne | cons a b => simp)
    have gap : ∀ r ∈ layB f jf (k + 1) xs, f k + (blk f jf k x).length ≤ r.num := fun r hr => by
      have ne : xs ≠ [] := fun z => by rw [z] at hr; cases hr
      have := h0 ne
      have := ih.1 r hr
      omega
    refine ⟨fun r hr => ?_, ?_⟩
    · rcases List.mem_append.mp (show r ∈ blk f jf k x ++ layB f jf (k + 1) xs from hr) with hr | hr
      · exact (blk_num hr).1
      · have := gap r hr
        omega
    · show (nums (blk f jf k x ++ layB f jf (k + 1) xs)).Pairwise (· < ·)
      unfold nums
      rw [List.map_append]
      refine List.pairwise_append.mpr ⟨blk_pw k x, ih.2, fun a ha b hb => ?_⟩
      obtain ⟨r, hr, rfl⟩ := List.mem_map.mp ha
      obtain ⟨r2, hr2, rfl⟩ := List.mem_map.mp hb
      have h1 := (blk_num hr).2
      have h2 := gap r2 hr2
      omega
theorem layB_len2 : ∀ (xs : List Nd) (k : Nat), xs.length ≤ (layB f jf k xs).length ∧ (layB f jf k xs).length ≤ 2 * xs.length
  | [], _ => ⟨Nat.le_refl _, Nat.le_refl _⟩
  | x :: xs, k => by
    have ih := layB_len2 xs (k + 1)
    have hb := blk_len (f := f) (jf := jf) k x
    show _ ≤ (blk f jf k x ++ layB f jf (k + 1) xs).length ∧ (blk f jf k x ++ layB f jf (k + 1) xs).length ≤ _
    rw [List.length_append, List.length_cons]
    omega
/-- what is asked of numbers and jumps -/
structure LayOk (f : Nat → Nat) (jf : Nat → Nd → Bool) (g : List Nd) : Prop where
  few : g.length ≤ 1000
  fall : ∀ (k : Nat) x t, g[k]? = some x → lastG x = some t → jf k x = false → t = k + 1
  gap : ∀ (k : Nat) x, g[k]? = some x → k + 1 < g.length → f k + (blk f jf k x).length ≤ f (k + 1)
def posB (f : Nat → Nat) (jf : Nat → Nd → Bool) (g : List Nd) (k : Nat) : Nat := (layB f jf 0 (g.take k)).length
variable {g : List Nd}
theorem lay_split {k : Nat} {x : Nd} (hx : g[k]? = some x) : layB f jf 0 g = layB f jf 0 (g.take k) ++ (blk f jf k x ++ layB f jf (k + 1) (g.drop (k + 1))) := by
  obtain ⟨hk, e⟩ := List.getElem?_eq_some_iff.mp hx
  have e1 : g = g.take k ++ x :: g.drop (k + 1) := by rw [← e, ← List.drop_eq_getElem_cons, List.take_append_drop]
  have e2 : (g.take k).length = k := by rw [List.length_take]; omega
  conv => lhs; rw [e1]
  rw [layB_app, e2, Nat.zero_add]
  rfl
theorem lay_first {k : Nat} {x : Nd} (hx : g[k]? = some x) : (layB f jf 0 g)[posB f jf g k]? = some (firstRow f k x) := by
  rw [lay_split hx, posB, List.getElem?_append_right (Nat.le_refl _), Nat.sub_self]
  rfl
theorem pos_next {k : Nat} {x : Nd} (hx : g[k]? = some x) : posB f jf g (k + 1) = posB f jf g k + (blk f jf k x).length := by
  obtain ⟨hk, e⟩ := List.getElem?_eq_some_iff.mp hx
  unfold posB
  rw [List.take_succ_eq_append_getElem hk, layB_app, List.length_append]
  have e2 : (g.take k).length = k := by rw [List.length_take]; omega
  rw [e2, Nat.zero_add, e]
  show _ + (blk f jf k x ++ []).length = _
  rw [List.append_nil]
theorem pos_mono {i : Nat} : ∀ {j : Nat}, i < j → j ≤ g.length → posB f jf g i < posB f jf g j
  | 0, h, _ => absurd h (Nat.not_lt_zero _)
  | j + 1, h, hj => by
    have hx : g[j]? = some g[j] := List.getElem?_eq_getElem (by omega)
    have e := pos_next (f := f) (jf := jf) hx
    have hb := (blk_len (f := f) (jf := jf) j g[j]).1
    by_cases q : i = j
    · subst q; omega
    · have := pos_mono (i := i) (j := j) (by omega) (by omega)
      omega
theorem pos_inj {i j : Nat} (hi : i < g.length) (hj : j < g.length) (e : posB f jf g i = posB f jf g j) : i = j := by
  rcases Nat.lt_trichotomy i j with q | q | q
  · have := pos_mono (f := f) (jf := jf) (g := g) q (by omega); omega
  · exact q
  · have := pos_mono (f := f) (jf := jf) (g := g) q (by omega); omega
theorem lay_mem {r : Rw} : ∀ {xs : List Nd} {k : Nat}, r ∈ layB f jf k xs → ∃ (i : Nat) (x : Nd), xs[i]? = some x ∧ r ∈ blk f jf (k + i) x
  | x :: xs, k, h => by
    rcases List.mem_append.mp (show r ∈ blk f jf k x ++ layB f jf (k + 1) xs from h) with h | h
    · exact ⟨0, x, rfl, h⟩
    · obtain ⟨i, y, h1, h2⟩ := lay_mem h
      have e : k + 1 + i = k + (i + 1) := by omega
      rw [e] at h2
      exact ⟨i + 1, y, h1, h2⟩
theorem lay_num {k : Nat} (hk : k < g.length) : f k ∈ nums (layB f jf 0 g) := by
  have h := lay_first (f := f) (jf := jf) (List.getElem?_eq_getElem hk)
  exact List.mem_map.mpr ⟨_, List.mem_of_getElem? h, firstRow_num k _⟩
theorem lay_ok (G : GOk g) (L : LayOk f jf g) : RwOk (layB f jf 0 g) := by
  have hn := layB_num (f := f) (jf := jf) g 0 fun i x hx hl => by
    have := L.gap i x hx hl
    simpa using this
  have h2 := layB_len2 (f := f) (jf := jf) g 0
  have hp := G.pos
  have few := L.few
  have gmem : ∀ (k : Nat) x, g[k]? = some x → ∀ t ∈ goals x, t < g.length := fun k x hx t ht => G.ok x (List.mem_of_getElem? hx) t ht
  refine ⟨by omega, by omega, hn.2.imp fun h => Nat.ne_of_lt h, fun r hr t ht => ?_, fun r hr => ?_, fun k r hk hf => ?_⟩
  · obtain ⟨i, x, hx, hb⟩ := lay_mem hr
    rw [Nat.zero_add] at hb
    have hi := (List.getElem?_eq_some_iff.mp hx).1
    unfold blk at hb
    rcases List.mem_cons.mp hb with rfl | hb
    · cases x with
      | sum x a s b to => cases ht
      | test a s b y n =>
        rw [List.mem_singleton.mp ht]
        exact lay_num (gmem i _ hx y (by simp [goals]))
      | fin => cases ht
      | spin =>
        rw [List.mem_singleton.mp ht]
        exact lay_num hi
    · split at hb
      · rename_i t2 e
        split at hb
        · rw [List.mem_singleton.mp hb] at ht
          rw [List.mem_singleton.mp ht]
          refine lay_num (gmem i _ hx t2 ?_)
          cases x <;> simp [lastG] at e <;> simp [goals, e]
        · cases hb
      · cases hb
  · obtain ⟨i, x, hx, hb⟩ := lay_mem hr
    have gd := G.good x (List.mem_of_getElem? hx)
    unfold blk at hb
    rcases List.mem_cons.mp hb with rfl | hb
    · cases x with
      | sum x a s b to => exact gd
      | test a s b y n => exact gd
      | fin => rfl
      | spin => rfl
    · split at hb
      · split at hb
        · rw [List.mem_singleton.mp hb]; rfl
        · cases hb
      · cases hb
  · obtain ⟨i, x, hx, hb⟩ := lay_mem (List.mem_of_getElem? hk)
    rw [Nat.zero_add] at hb
    have hi := (List.getElem?_eq_some_iff.mp hx).1
    have e1 : r = firstRow f i x := by
      unfold blk at hb
      rcases List.mem_cons.mp hb with h | h
      · exact h
      · split at h
        · split at h
          · rw [List.mem_singleton.mp h] at hf; cases hf
          · cases h
        · cases h
    have kp : k = posB f jf g i := by
      have h1 := lay_first (f := f) (jf := jf) hx
      have hk1 := (List.getElem?_eq_some_iff.mp hk)
      have hk2 := (List.getElem?_eq_some_iff.mp h1)
      have nd : (layB f jf 0 g).Nodup := by
        have h9 : (layB f jf 0 g).Pairwise fun a b => a.num < b.num := List.pairwise_map.mp hn.2
        exact h9.imp fun h e => by rw [e] at h; exact Nat.lt_irrefl _ h
      have := List.pairwise_iff_getElem.mp nd
      rcases Nat.lt_trichotomy k (posB f jf g i) with q | q | q
      · exact absurd (by rw [hk1.2, hk2.2, e1]) (this k _ hk1.1 hk2.1 q)
      · exact q
      · exact absurd (by rw [hk1.2, hk2.2, e1]) (this _ k hk2.1 hk1.1 q)
    have pn := pos_next (f := f) (jf := jf) hx
    have pl : posB f jf g (i + 1) ≤ (layB f jf 0 g).length := by
      have : posB f jf g g.length = (layB f jf 0 g).length := by unfold posB; rw [List.take_length]
      rw [← this]
      by_cases q : i + 1 = g.length
      · rw [q]; exact Nat.le_refl _
      · exact Nat.le_of_lt (pos_mono (by omega) (Nat.le_refl _))
    obtain ⟨t, ht⟩ : ∃ t, lastG x = some t := by
      rw [e1] at hf
      cases x with
      | sum x a s b to => exact ⟨_, rfl⟩
      | test a s b y n => exact ⟨_, rfl⟩
      | fin => cases hf
      | spin => cases hf
    by_cases hj : jf i x = true
    · have : (blk f jf i x).length = 2 := by unfold blk; rw [ht]; simp [hj]
      omega
    · have hj : jf i x = false := by simpa using hj
      have et := L.fall i x t hx ht hj
      have tl : t < g.length := gmem i _ hx t (by cases x <;> simp [lastG] at ht <;> simp [goals, ht])
      have h3 := pos_mono (f := f) (jf := jf) (g := g) (i := i + 1) (j := g.length) (by omega) (Nat.le_refl _)
      have : posB f jf g g.length = (layB f jf 0 g).length := by unfold posB; rw [List.take_length]
      have hb1 := (blk_len (f := f) (jf := jf) i x).1
      omega
theorem idx_of_nodup {l : List Nat} (nd : l.Nodup) {i a : Nat} (h : l[i]? = some a) : l.idxOf a = i := by
  obtain ⟨hi, e⟩ := List.getElem?_eq_some_iff.mp h
  rw [← e]
  exact nd.idxOf_getElem i hi
theorem lay_idx (G : GOk g) (L : LayOk f jf g) {k : Nat} (hk : k < g.length) : (nums (layB f jf 0 g)).idxOf (f k) = posB f jf g k := by
  refine idx_of_nodup (lay_ok G L).nd ?_
  unfold nums
  rw [List.getElem?_map, lay_first (List.getElem?_eq_getElem hk)]
  show some _ = some _
  rw [firstRow_num]
theorem lay_come (G : GOk g) (L : LayOk f jf g) {k : Nat} (hk : k < g.length) : comeTo (layB f jf 0 g) (posB f jf g k) = posB f jf g k := by
  have h1 := lay_first (f := f) (jf := jf) (List.getElem?_eq_getElem hk)
  have e : nxJ (layB f jf 0 g) (posB f jf g k) = match firstRow f k g[k] with | .jump _ to => some ((nums (layB f jf 0 g)).idxOf to) | _ => none := by
    unfold nxJ
    rw [h1]
    cases firstRow f k g[k] <;> rfl
  cases hx : g[k] with
  | spin =>
    rw [hx] at e
    have e : nxJ (layB f jf 0 g) (posB f jf g k) = some ((nums (layB f jf 0 g)).idxOf (f k)) := e
    rw [lay_idx G L hk] at e
    exact come_self (lay_ok G L).pos e
  | fin => rw [hx] at e; exact come_none e
  | sum x a s b to => rw [hx] at e; exact come_none e
  | test a s b y n => rw [hx] at e; exact come_none e
theorem lay_fall (G : GOk g) (L : LayOk f jf g) {k t : Nat} {x : Nd} (hx : g[k]? = some x) (ht : lastG x = some t) : comeTo (layB f jf 0 g) (posB f jf g k + 1) = posB f jf g t := by
  have tl : t < g.length := G.ok x (List.mem_of_getElem? hx) t (by cases x <;> simp [lastG] at ht <;> simp [goals, ht])
  have R := lay_ok G L
  by_cases hj : jf k x = true
  · have eb : blk f jf k x = [firstRow f k x, .jump (f k + 1) (f t)] := by unfold blk; rw [ht]; simp [hj]
    have h1 : (layB f jf 0 g)[posB f jf g k + 1]? = some (.jump (f k + 1) (f t)) := by
      rw [lay_split hx, eb, posB, List.getElem?_append_right (by omega)]
      have : (layB f jf 0 (g.take k)).length + 1 - (layB f jf 0 (g.take k)).length = 1 := by omega
      rw [this]
      rfl
    have n1 : nxJ (layB f jf 0 g) (posB f jf g k + 1) = some (posB f jf g t) := by
      unfold nxJ
      rw [h1]
      show some ((nums (layB f jf 0 g)).idxOf (f t)) = _
      rw [lay_idx G L tl]
    have h2 := lay_first (f := f) (jf := jf) (List.getElem?_eq_getElem tl)
    have two : 1 < (layB f jf 0 g).length := by
      have := (List.getElem?_eq_some_iff.mp h1).1
      omega
    cases hy : g[t] with
    | spin =>
      rw [hy] at h2
      have n2 : nxJ (layB f jf 0 g) (posB f jf g t) = some (posB f jf g t) := by
        unfold nxJ
        rw [h2]
        show some ((nums (layB f jf 0 g)).idxOf (f t)) = _
        rw [lay_idx G L tl]
      exact come_two two n1 n2
    | fin => rw [hy] at h2; exact come_one R.pos n1 (by unfold nxJ; rw [h2]; rfl)
    | sum x a s b to => rw [hy] at h2; exact come_one R.pos n1 (by unfold nxJ; rw [h2]; rfl)
    | test a s b y n => rw [hy] at h2; exact come_one R.pos n1 (by unfold nxJ; rw [h2]; rfl)
  · have hj : jf k x = false := by simpa using hj
    have et := L.fall k x t hx ht hj
    subst et
    have eb : (blk f jf k x).length = 1 := by unfold blk; rw [ht]; simp [hj]
    have := pos_next (f := f) (jf := jf) hx
    rw [eb] at this
    rw [← this]
    exact lay_come G L tl
theorem lay_graph (G : GOk g) (L : LayOk f jf g) : graphR (layB f jf 0 g) = g := by
  have R := lay_ok G L
  have e0 : posB f jf g 0 = 0 := by unfold posB; rfl
  have ec : comeTo (layB f jf 0 g) 0 = posB f jf g 0 := by
    have := lay_come G L G.pos
    rw [e0] at this
    rw [e0]
    exact this
  unfold graphR
  rw [ec]
  refine laid_graph G (raw_ok R).1 (fun k x hx => ?_) fun i j hi hj e => pos_inj hi hj e
  have h1 := lay_first (f := f) (jf := jf) hx
  rw [rawOf_at (List.getElem?_eq_some_iff.mp h1).1]
  congr 1
  unfold nodeAt
  rw [h1]
  cases x with
  | sum x a s b to =>
    show Nd.sum x a s b (comeTo _ _) = _
    rw [lay_fall G L hx rfl]
    rfl
  | test a s b y n =>
    have hy : y < g.length := G.ok _ (List.mem_of_getElem? hx) y (by simp [goals])
    show Nd.test a s b (comeTo _ ((nums (layB f jf 0 g)).idxOf (f y))) (comeTo _ _) = _
    rw [lay_fall G L hx rfl, lay_idx G L hy, lay_come G L hy]
    rfl
  | fin => rfl
  | spin => rfl
end
end VL
/-! VL43: the program's own laid out rows, as rows laid out block by block. -/
namespace VL
open PySem PySem.Spec PyProof.Rows L2 VL
def jfO (k : Nat) (x : Nd) : Bool := toff x k
def laidO (g : List Nd) : List Rw := layB (firstOf g) jfO 0 g
theorem mk_blk {g : List Nd} {k : Nat} {x : Nd} (hx : g[k]? = some x) : ((mkAt g k).zipIdx (firstOf g k)).map (fun p => rowOfMark g p.2 p.1) = (blk (firstOf g) jfO k x).map rwD := by
  unfold mkAt blk
  rw [hx]
  cases x with
  | sum x a s b to =>
    show _ = (Rw.sum (firstOf g k) x a s b :: (if toff (.sum x a s b to) k then [Rw.jump (firstOf g k + 1) (firstOf g to)] else [])).map rwD
    show (((k, false) :: (if toff (.sum x a s b to) k then ([to].take 1).map fun t => (t, true) else [])).zipIdx (firstOf g k)).map (fun p => rowOfMark g p.2 p.1) = _
    cases toff (.sum x a s b to) k <;> simp [rowOfMark, hx, rwD, rwL, firstRow, goals]
  | test a s b y n =>
    show (((k, false) :: (if toff (.test a s b y n) k then ([n, y].take 1).map fun t => (t, true) else [])).zipIdx (firstOf g k)).map (fun p => rowOfMark g p.2 p.1) = (Rw.test (firstOf g k) a s b (firstOf g y) :: (if toff (.test a s b y n) k then [Rw.jump (firstOf g k + 1) (firstOf g n)] else [])).map rwD
    cases toff (.test a s b y n) k <;> simp [rowOfMark, hx, rwD, rwL, firstRow, goals]
  | fin => simp [rowOfMark, hx, rwD, rwL, firstRow, lastG, toff]
  | spin => simp [rowOfMark, hx, rwD, rwL, firstRow, lastG, toff]
theorem laidO_take {g : List Nd} : ∀ (k : Nat), k ≤ g.length → rowsMk g (marksTo g k) = (layB (firstOf g) jfO 0 (g.take k)).map rwD
  | 0, _ => by simp [marksTo, rowsMk, layB]
  | k + 1, h => by
    have hx : g[k]? = some g[k] := List.getElem?_eq_getElem (by omega)
    have e2 : (g.take k).length = k := by rw [List.length_take]; omega
    rw [marksTo_succ, rowsMk_app, laidO_take k (by omega), List.take_succ_eq_append_getElem (by omega), layB_app, e2, Nat.zero_add, List.map_append]
    congr 1
    show ((mkAt g k).zipIdx (firstOf g k)).map (fun p => rowOfMark g p.2 p.1) = (blk (firstOf g) jfO k g[k] ++ []).map rwD
    rw [mk_blk hx, List.append_nil]
theorem laidO_rows {g : List Nd} : rowsOut g = (laidO g).map rwD := by
  unfold rowsOut laidO
  rw [laidO_take g.length (Nat.le_refl _), List.take_length]
theorem laidO_ok {g : List Nd} (h : g.length ≤ 1000) : LayOk (firstOf g) jfO g where
  few := h
  fall := fun k x t hx ht hj => by
    cases x with
    | sum x a s b to =>
      have e : to = t := Option.some.inj ht
      have hj : decide (to ≠ k + 1) = false := hj
      have := of_decide_eq_false hj
      omega
    | test a s b y n =>
      have e : n = t := Option.some.inj ht
      have hj : decide (n ≠ k + 1) = false := hj
      have := of_decide_eq_false hj
      omega
    | fin => cases ht
    | spin => cases ht
  gap := fun k x hx hk => by
    have h1 := congrArg List.length (mk_blk hx)
    simp only [List.length_map, List.length_zipIdx] at h1
    have h2 : firstOf g (k + 1) = firstOf g k + (mkAt g k).length := by
      unfold firstOf
      rw [marksTo_succ, List.length_append]
    omega
theorem laidO_rw {g : List Nd} (G : GOk g) (h : g.length ≤ 1000) : RwOk (laidO g) := lay_ok G (laidO_ok h)
theorem laidO_graph {g : List Nd} (G : GOk g) (h : g.length ≤ 1000) : graphR (laidO g) = g := lay_graph G (laidO_ok h)
theorem laidO_pl {g : List Nd} (h : g.length ≤ 1000) : plD 7 (.lst false ((laidO g).map rwD)) = true := by
  rw [← laidO_rows]
  refine rows_pl (n := 5) g _ ?_
  have : (marksTo g g.length).length ≤ g.length * 2 := firstOf_le g g.length
  omega
theorem okD_rw {r : Rw} (h : r.good = true) {n : Nat} (hn : 1 ≤ n) : okD n (rwD r) = true := by
  obtain ⟨n, rfl⟩ : ∃ m, n = m + 1 := ⟨n - 1, by omega⟩
  show okDL n (rwL r) = true
  have oi : ∀ i : Int, okD n (.int i) = true := fun i => by cases n <;> rfl
  have os : ∀ s : Cs, Cs.good s = true → okD n (.str s) = true := fun s hs => by cases n <;> exact hs
  have kw : ∀ s ∈ [cSum, cTest, cJump, cEnd], Cs.good s = true := by decide
  cases r with
  | sum k x a s b =>
    have h : (Cs.good x && (a.good && (Cs.good s && b.good))) = true := h
    simp only [Bool.and_eq_true] at h
    rw [okDL_all]
    simp only [rwL, List.all_cons, List.all_nil, oi, os _ (kw cSum (by simp)), os _ h.1, opD_ok h.2.1, os _ h.2.2.1, opD_ok h.2.2.2, Bool.and_true]
  | test k a s b to =>
    have h : (a.good && (Cs.good s && b.good)) = true := h
    simp only [Bool.and_eq_true] at h
    rw [okDL_all]
    simp only [rwL, List.all_cons, List.all_nil, oi, os _ (kw cTest (by simp)), opD_ok h.1, os _ h.2.1, opD_ok h.2.2, Bool.and_true]
  | jump k to =>
    rw [okDL_all]
    simp only [rwL, List.all_cons, List.all_nil, oi, os _ (kw cJump (by simp)), Bool.and_true]
  | fin k =>
    rw [okDL_all]
    simp only [rwL, List.all_cons, List.all_nil, oi, os _ (kw cEnd (by simp)), Bool.and_true]
theorem okDL_rws {rs : List Rw} (h : ∀ r ∈ rs, r.good = true) {n : Nat} (hn : 1 ≤ n) : okDL n (rs.map rwD) = true := by
  rw [okDL_all, List.all_map]
  exact List.all_eq_true.mpr fun r hr => okD_rw (h r hr) hn
theorem okD_lrws {rs : List Rw} (h : ∀ r ∈ rs, r.good = true) (m : Bool) : okD 64 (.lst m (rs.map rwD)) = true := okDL_rws h (n := 63) (by decide)
theorem rws_eq {rs : List Rw} (h : ∀ r ∈ rs, r.good = true) : deqL (rs.map rwD) (rs.map rwD) = true := deqL_self (okDL_rws h (n := 63) (by decide))
theorem rws_eqOk {rs : List Rw} (h : ∀ r ∈ rs, r.good = true) (m n : Bool) : eqOk (.lst m (rs.map rwD)) (.lst n (rs.map rwD)) := .inr ⟨okD_lrws h m, okD_lrws h n⟩
end VL
/-! VL44: own exception classes whose base has an __init__ with a row. -/
namespace VL
open PySem PySem.Spec PyProof.Rows L2 VL
def initP : Str × Option Str := ("JumpError", some "__init__")
abbrev fiA (K : PySem.W.Frag) : Addr := He.fAd K initP
def oexB (K : PySem.W.Frag) (C : Addr) : Bool := match K.lookup C with
  | some ⟨.type ty, _, .cls cd, sl⟩ => (match cd.mro, sl.toList with
    | .ref C' :: bm, [_, _, _, _, some (.builtin n), _] => decide (ty = "type") && (decide (C' = C) && (decide (n = "ValueError.__new__") && (!cd.hasDel && (cd.hasDict && PySem.HandSPX.refsVE bm))))
    | _, _ => false)
  | _ => false
theorem oexB_ok {K : PySem.W.Frag} {C : Addr} (h : oexB K C = true) : ∃ nm q N bs bm sn sub ab col dd k0 k1 k2 k3 k5, K.lookup C = some (excClassObj nm q C N bs bm true sn sub ab col dd k0 k1 k2 k3 k5 "ValueError.__new__") ∧ PySem.HandSPX.refsVE bm = true := by
  unfold oexB at h
  split at h
  · rename_i ty dd cd sl ho
    split at h
    · rename_i C' bm k0 k1 k2 k3 n k5 hm hs
      simp only [Bool.and_eq_true, decide_eq_true_eq, Bool.not_eq_true'] at h
      obtain ⟨h0, h1, h2, h3, h4, h5⟩ := h
      subst h0 h1 h2
      obtain ⟨nm, bs, mro, ns, qn, hd, sn, sub, ab, col, de⟩ := cd
      dsimp only at hm h3 h4
      subst hm h3 h4
      obtain ⟨l⟩ := sl
      have hs : l = _ := hs
      subst hs
      exact ⟨nm, qn, ns, bs, bm, sn, sub, ab, col, dd, k0, k1, k2, k3, k5, ho, h5⟩
    · cases h
  · cases h
def oexA (K : PySem.W.Frag) (x : Str) : Bool := oexB K (He.ga K x) && (decide (PySem.W.findIn K (.ref (He.ga K x)) "__setattr__" = some (some (.builtin "object.__setattr__"))) && (decide (PySem.W.typeIn K (.ref (He.ga K x)) = some (.type "type")) &&
  (PySem.W.keepIn K (.ref (He.ga K x)) && (decide (PySem.W.findIn K (.ref (He.ga K x)) "__init__" = some (some (.ref (fiA K)))) && (decide (PySem.W.findIn K (.ref (He.ga K x)) "row" = some none) && (xfB K (He.ga K x) &&
  (decide (PySem.W.findIn K (.ref (He.ga K x)) "__class__" = some (some (.builtin "object.__class__"))) && decide (PySem.W.mroIn K (He.ga K x) (.type "object") = some true))))))))
def cfV (v : Value) : Option PySem.W.CFound → Bool
  | some (.val u) => decide (u = v)
  | _ => false
theorem cfV_ok {v : Value} {o : Option PySem.W.CFound} (h : cfV v o = true) : o = some (.val v) := by
  unfold cfV at h
  split at h
  · rw [of_decide_eq_true h]
  · cases h
def oexG (K : PySem.W.Frag) : Bool := cfV (.builtin "ValueError.__init__") (PySem.W.findCls K (.type "ValueError") (.type "type") "__init__") && (decide (PySem.W.typeIn K (.ref (fiA K)) = some (.type "function")) &&
  (decide (PySem.W.specialIn K (.builtin "object.__class__") "__get__" = some (some (.builtin "getset_descriptor.__get__"))) && decide (PySem.W.takesIn K (.builtin "object.__class__") = some true)))
structure OexW (K : PySem.W.Frag) : Prop where
  vV : PySem.W.findCls K (.type "ValueError") (.type "type") "__init__" = some (.val (.builtin "ValueError.__init__"))
  tI : PySem.W.typeIn K (.ref (fiA K)) = some (.type "function")
  hn : PySem.W.specialIn K (.builtin "object.__class__") "__get__" = some (some (.builtin "getset_descriptor.__get__"))
  ht : PySem.W.takesIn K (.builtin "object.__class__") = some true
structure Oex (K : PySem.W.Frag) (x : Str) : Prop where
  oc : OexC K (He.ga K x)
  ini : PySem.W.findIn K (.ref (He.ga K x)) "__init__" = some (some (.ref (fiA K)))
  row : PySem.W.findIn K (.ref (He.ga K x)) "row" = some none
  xf : XfC K (He.ga K x)
  ec : ExcC K (He.ga K x)
theorem oexG_ok {K : PySem.W.Frag} (h : oexG K = true) : OexW K := by
  obtain ⟨h1, h⟩ := Bool.and_eq_true_iff.mp h
  obtain ⟨h2, h⟩ := Bool.and_eq_true_iff.mp h
  obtain ⟨h3, h4⟩ := Bool.and_eq_true_iff.mp h
  exact ⟨cfV_ok h1, of_decide_eq_true h2, of_decide_eq_true h3, of_decide_eq_true h4⟩
theorem oex_ok {K : PySem.W.Frag} {x : Str} (g : OexW K) (h : oexA K x = true) : Oex K x := by
  obtain ⟨h1, h⟩ := Bool.and_eq_true_iff.mp h
  obtain ⟨h2, h⟩ := Bool.and_eq_true_iff.mp h
  obtain ⟨h3, h⟩ := Bool.and_eq_true_iff.mp h
  obtain ⟨h4, h⟩ := Bool.and_eq_true_iff.mp h
  obtain ⟨h5, h⟩ := Bool.and_eq_true_iff.mp h
  obtain ⟨h6, h⟩ := Bool.and_eq_true_iff.mp h
  obtain ⟨h7, h⟩ := Bool.and_eq_true_iff.mp h
  obtain ⟨h8, h9⟩ := Bool.and_eq_true_iff.mp h
  have xf := xfB_ok h7
  exact ⟨⟨oexB_ok h1, of_decide_eq_true h2, xf.exC, of_decide_eq_true h3, h4⟩, of_decide_eq_true h5, of_decide_eq_true h6, xf, ⟨xf.ga, xf.gg, xf.exC, xf.hdC, of_decide_eq_true h8, g.hn, g.ht, of_decide_eq_true h9⟩⟩
/-- __init__(self, row), walked -/
def spI (K : PySem.W.Frag) : Sp := fun vs H Q _ => ∃ (a C : Addr) (r : V), vs = [.ref a, r] ∧ H a = some (exo a C none) ∧ OexC K C ∧ PySem.W.findIn K (.ref C) "row" = some none ∧
  ∀ dx, H dx = none → dx ≠ a → Q .non (upd (upd H dx (exd dx [("row", r)])) a (exo a C (some dx)))
end VL
/-! VL45: an own exception is made without arguments, and raised. -/
namespace VL
open PySem PySem.Spec PyProof.Rows L2 VL
def tIni (K : PySem.W.Frag) : TS := tSeq (tDrop (tVeI K (tCons (tVar 0) (tCons (tC (.str "refused")) tNil)))) (tOst K "row" (tVar 0) (tVar 1))
theorem init_ok {P : Program} {w : World} {K : PySem.W.Frag} {mg : Str → Option Value} {base : Heap} {params : Arguments} {body : List Stmt} {scope : Scope} {dvs : List V} {f : Addr} {fd : FuncData} {k : Nat}
    (F : FunD K "__init__" "JumpError.__init__" params body scope dvs [] f fd) (S : FnScope ["self", "row"] ["self", "row"] scope)
    (hb : ∀ (cdv : Value) (A : Around) (outer : List Env) (s : Shared) (H : Hp) (E : XK), PSs (cxOf (VL.CX P w) P w K mg base ["self", "row"] "JumpError.__init__" scope f cdv A outer s H E) body (tIni K)) :
    FnOk P w K mg base (VL.CX P w) (k + 1) f fd ["self", "row"] (spI K) := by
  refine F.ok S (fun vs H Q E ⟨a, C, r, h, _⟩ => by rw [h]; rfl) fun cdv A outer s H vs Q E hr h => ⟨_, hb cdv A outer s H E, ?_⟩
  obtain ⟨a, C, r, rfl, e, oc, ro, q⟩ := h
  refine ⟨_, rfl, a, C, _, rfl, by simp, oc, e, ?_⟩
  exact ⟨r, rfl, .ref a, rfl, a, C, rfl, oc, ro, .inl ⟨e, q⟩⟩
section
variable {X : Cx} {p pos : Pos}
/-- what C() leaves -/
def tMk0 (C : Addr) (sp : Sp) (dvs : List V) : L2.St → Hp → XK → Prop := fun _ H1 Q => ∀ a, H1 a = none → sp (.ref a :: dvs) (upd H1 a (exo a C none))
  (fun v H2 => v = .non ∧ ∃ (d : Addr) (fs : List (Str × V)), H2 a = some (exo a C (some d)) ∧ H2 d = some (exd d fs) ∧ H1 d = none ∧ Q (.ref C) (some d) (upd (del H2 a) d (.xd fs))) (fun _ _ _ => False)
theorem pmk_oex0 {CX : CXT} {x : Str} {C fI : Addr} {k : Nat} {fd : FuncData} {ps : List Str} {sp : Sp} {ds : List Value} {dvs : List V} (T : OexC X.K C) (iC : PySem.W.findIn X.K (.ref C) "__init__" = some (some (.ref fI))) (tI : PySem.W.typeIn X.K (.ref fI) = some (.type "function"))
    (F1 : FnOk X.prog X.w X.K X.mg X.base CX k fI fd ps sp) (hr : Room (k + 1) X.A) (hb : Binds X.K fd ps ds) (hd : Vals dvs ds) (hx : Passes CX X (fun _ _ _ => False)) (hg : Gl X x) (hm : X.mg x = some (.ref C))
    (hdb : (x == ("__debug__" : Str)) = false := by decide) :
    PMk X (.Call (.Name x p) [] [] pos) (tMk0 C sp dvs) := by
  intro pins s σ H Q I h
  obtain ⟨nm, q, N, bs, bm, sn, sub, ab, col, dd, k0, k1, k2, k3, k5, hC, hbm⟩ := T.cls
  refine wpAny_Call_Name_kw (ld_glob I hg hm ?_ hdb)
  refine PySem.W.callWith_K0 I.kIn T.kC ?_
  show wpAny _ _ (call (.ref C) ([] : List Value)) _ _ _
  obtain ⟨hp, g, dr, tk, os⟩ := s
  have lt : hp.objs.size ≤ hp.objs.size + 1 := Nat.le_succ _
  have fr : H (hp.objs.size + 1) = none := I.hok.fresh lt
  have q0 := h (hp.objs.size + 1) fr
  have up : ∀ b o, hp.get? b = some o → ((hp.push (PySem.W.kdv_tup [])).push (PySem.HandSPX.excO C hp.objs.size)).get? b = some o := fun b o e => Heap.get?_push_of_some _ (Heap.get?_push_of_some _ e)
  have at2 : ((hp.push (PySem.W.kdv_tup [])).push (PySem.HandSPX.excO C hp.objs.size)).get? (hp.objs.size + 1) = some (PySem.HandSPX.excO C hp.objs.size) := by heap_get
  have I2 : Inv X pins σ (upd H (hp.objs.size + 1) (exo (hp.objs.size + 1) C none)) ⟨(hp.push (PySem.W.kdv_tup [])).push (PySem.HandSPX.excO C hp.objs.size), g, dr, tk, os⟩ :=
    I.laid (t' := tk) (a := hp.objs.size + 1) (o := exo (hp.objs.size + 1) C none) (h' := (hp.push (PySem.W.kdv_tup [])).push (PySem.HandSPX.excO C hp.objs.size)) up lt (exo_ok at2)
  have rv : Vals (V.ref (hp.objs.size + 1) :: dvs) (Value.ref (hp.objs.size + 1) :: ds) := .cons rfl hd
  have ln : ([Value.ref (hp.objs.size + 1)] ++ ds).length = ps.length := by
    have e := rv.length
    rw [F1.len _ _ _ _ q0] at e
    exact e.symm
  refine wpAny_call (PySem.HandSPX.call_own F.excBase_ValueError (fun Y => PySem.HandSPX.refsVE_contains Y bm hbm) (I.kIn _ _ hC) (PySem.W.looks_findIn I.kIn iC) (fun self => PySem.W.bind_fn I.kIn self tI) (rest := []) (Nat.zero_le _)
    (codeAny_mono (F1.run _ X.stack _ _ ⟨[Value.ref (hp.objs.size + 1)], []⟩ (Value.ref (hp.objs.size + 1) :: ds) _ _ (fun _ _ _ => False) (hr.make C [] []) (I2.env0.make C [] []) (hb _ [Value.ref (hp.objs.size + 1)] I2.kIn ln) rv q0) fun r s' hq' => ?_))
  cases r with
  | error er => exact hx pins σ _ _ er s' I2 hq'
  | ok fl =>
    cases fl with
    | ret u =>
      obtain ⟨v, H2, os2, bare2, un2, hok2, ru, ev, d, fs, ea, ed, hd1, q2⟩ := hq'
      subst ev
      obtain ⟨h2, g2, d2, t2, os'⟩ := s'
      obtain ⟨t0, G, J, kG, ge, hoe, na⟩ := mk_end0 (d2 := d2) (t2 := t2) I lt up un2 hok2 os2 bare2 ea ed hd1
      exact ⟨ru, _, _, _, ⟨G, g2, d2, t2, os'⟩, _, .ref C, some d, rfl, J, kG, ge, hoe, ⟨rfl, rfl, fun vs e => by cases e; rfl⟩, rfl, rfl, na, rfl, bare2, raises_own T.exC T.tyC, q2⟩
    | next => exact False.elim hq'
    | brk => exact False.elim hq'
    | cont => exact False.elim hq'
end
/-- the base's __init__, as every class of the law's calls it -/
structure ExFn (P : Program) (w : World) (K : PySem.W.Frag) (mg : Str → Option Value) (base : Heap) (k : Nat) : Prop where
  ex : ∃ fd ds, Vals [.non] ds ∧ Binds K fd ["self", "row"] ds ∧ FnOk P w K mg base (VL.CX P w) k (fiA K) fd ["self", "row"] (spI K)
theorem ExFn.mono {P w K mg base j k} (F : ExFn P w K mg base j) (h : j ≤ k) : ExFn P w K mg base k := let ⟨fd, ds, a, b, c⟩ := F.ex; ⟨fd, ds, a, b, c.mono h⟩
theorem no_pass {X : Cx} : Passes (VL.CX X.prog X.w) X (fun _ _ _ => False) := fun _ _ _ _ _ _ _ h => by
  obtain ⟨_, _, _, _, _, _, _, _, _, _, _, _, z⟩ := h
  exact z.elim
section
variable {X : Cv}
def vRaise (s : String) : VTS := fun N ε => N.rx (.type s) .non ε
theorem vs_raise {s : String} {x : Str} {k : Nat} {p pos pos' : Pos} (hx : Str.ofString s = x) (E : ExFn X.prog X.w X.K X.mg X.base k) (W : OexW X.K) (O : Oex X.K x) (hc : X.calm = true) (hr : Room (k + 1) X.A) (hg : Gl X.toCx x) (hm : X.mg x = some (.ref (He.ga X.K x)))
    (hdb : (x == ("__debug__" : Str)) = false := by decide) : VS X (.Raise (some (.Call (.Name x p) [] [] pos)) none pos') (vRaise s) := by
  subst hx
  obtain ⟨fd, ds, hd, hb, F⟩ := E.ex
  refine ⟨fun W' => fun _ σ H => tMk0 (He.ga X.K (Str.ofString s)) (spI X.K) [.non] σ H fun cls d H' => W' cls d σ H', fun W' tk => L2N.ps_raise hc tk (pmk_oex0 O.oc O.ini W.tI F hr hb hd no_pass hg hm hdb), fun b σ H ε T Tv W' N E' I q _ x => ?_⟩
  intro a na
  refine ⟨a, He.ga X.K (Str.ofString s), .non, rfl, upd_same, O.oc, O.row, fun dx nd ne => ⟨rfl, dx, [("row", .non)], upd_same, ?_, ?_, ?_⟩⟩
  · rw [upd_ne ne, upd_same]
  · rw [upd_ne ne] at nd
    exact nd
  · rw [upd_ne ne] at nd
    have e : upd (del (upd (upd (upd H a (exo a (He.ga X.K (Str.ofString s)) none)) dx (exd dx [("row", V.non)])) a (exo a (He.ga X.K (Str.ofString s)) (some dx))) a) dx (.xd [("row", V.non)]) = upd H dx (.xd [("row", .non)]) := by
      funext b
      by_cases h1 : b = dx
      · subst h1
        rw [upd_same, upd_same]
      · rw [upd_ne h1, upd_ne h1]
        by_cases h2 : b = a
        · subst h2
          rw [del_same, na]
        · rw [del_ne h2, upd_ne h2, upd_ne h1, upd_ne h2]
    rw [e]
    obtain ⟨G, Fs, Ft, J⟩ := id I
    have h0 := J.h0 nd
    have sb : Sub H (upd H dx (.xd [("row", .non)])) := Sub.refl.upd nd
    have I2 := (I.grow sb).push (d := .non) (v := .non) fun _ => ⟨rfl, rfl⟩
    exact x (.type s) dx σ _ ε .non .non I2 upd_same h0 q
end
end VL
/-! VL46: try .. except an own class. -/
namespace VL
open PySem PySem.Spec PyProof.Rows L2 VL
section
variable {K : PySem.W.Frag} {b : Bs} {σ : L2.St} {H : Hp} {ε : Ep} {T : List D} {Tv : List V}
/-- a slot is told no more -/
theorem SI.clr (I : SI K b σ H ε T Tv) {i : Nat} (hk : ∀ u, b.kv[i]? ≠ some (some u)) : SI K b (σ.set i none) H (ε.set i none) T Tv := by
  by_cases hi : i < ε.length
  · obtain ⟨G, F, Ft, J⟩ := I
    obtain ⟨ov, A, B, C, hs, rfl, r, back⟩ := J.slots.focus (i := i) (List.getElem?_eq_getElem hi)
    have s2 := back G H none none [] Sub.refl (fun _ _ => rfl) rfl
    rw [List.append_nil] at s2
    have sb : (A ++ C ++ Ft).Sublist (A ++ B ++ C ++ Ft) := by
      refine List.Sublist.append (List.Sublist.append ?_ (List.Sublist.refl C)) (List.Sublist.refl Ft)
      exact List.sublist_append_left A B
    refine ⟨G, A ++ C, Ft, J.s0, J.sub, s2, J.temps, J.nd.sublist sb, fun a z => J.fr a (sb.subset z), fun a z => J.own a (sb.subset z), J.gn, J.keep, fun j v e => ?_⟩
    have := J.kept j v e
    by_cases h : i = j
    · subst h
      exact absurd e (hk v)
    · rw [List.getElem?_set_ne h]
      exact this
  · rw [List.set_eq_of_length_le (by have := I.lenS; omega), List.set_eq_of_length_le (by omega)]
    exact I
/-- the caught exception goes to a slot -/
theorem SI.exn {row : D} {v : V} {a dd : Addr} {cls : Value} {i : Nat} (I : SI K b σ H ε (T ++ [row]) (Tv ++ [v])) (hl : T.length = Tv.length) (e : H dd = some (.xd [("row", v)])) (fr : dd ∈ b.F0 ∨ b.H0 dd = none) (fz : isFz row = true)
    (hi : i < ε.length) (hk : ∀ u, b.kv[i]? ≠ some (some u)) : SI K b (σ.set i (some (.ref a))) H (ε.set i (some (.exn a dd cls row))) T Tv := by
  obtain ⟨G, F, Ft, J⟩ := I
  obtain ⟨F1, F2, rfl, r1, r2⟩ := J.temps.split2 hl
  have r2 := RpL.one.mp r2
  have e2 := r2.fz fz
  subst e2
  have nd : dd ∉ F ++ F1 := fun z => by
    have z2 : ∃ o, H dd = some o ∧ Mut (some o) := by
      rcases List.mem_append.mp z with z | z
      · exact J.slots.there dd z
      · exact r1.there dd z
    obtain ⟨o, eo, m⟩ := z2
    rw [e] at eo
    cases eo
    exact m
  have sg : Sub G (L2.upd G dd (.xd [("row", v)])) := fun p o ep => by
    by_cases h : p = dd
    · subst h
      rw [upd_same, ← J.sub _ _ ep, e]
    · rw [upd_ne h]; exact ep
  have nf : ∀ a ∈ F ++ F1, G a = none := fun a z => J.fr a (by simpa using z)
  refine SI.store (d := .exn a dd cls row) (v := .ref a) ⟨L2.upd G dd (.xd [("row", v)]), F, F1, J.s0.trans sg, fun p o ep => ?_, J.slots.mono sg fun _ _ => rfl, ?_, by simpa using J.nd, fun a z => ?_, fun a z => J.own a (by simpa using z), fun a o ea => ?_, J.keep, J.kept⟩ hl hi hk
  · by_cases h : p = dd
    · subst h
      rw [upd_same] at ep
      rw [e, ep]
    · rw [upd_ne h] at ep; exact J.sub _ _ ep
  · have q := (r1.mono sg fun _ _ => rfl).append (RpL.one.mpr (show Rp K (L2.upd G dd (.xd [("row", v)])) H (.exn a dd cls row) (.ref a) [] from ⟨rfl, v, upd_same, r2.mono sg fun _ _ => rfl⟩))
    rw [List.append_nil] at q
    exact q
  · have : a ≠ dd := fun h => nd (h ▸ z)
    rw [upd_ne this]
    exact nf a z
  · by_cases h : a = dd
    · subst h
      exact .inr (inl3 fr)
    · rw [upd_ne h] at ea
      exact J.gn a o ea
end
/-! ### the rule -/
abbrev trX (X : Cv) (pn : List (Addr × Obj)) (xe : Value → Shared → Prop) : Cv := { X with toCx := X.toCx.tr pn xe }
abbrev suX (X : Cv) (a : Addr) (oe : Obj) (pn : List (Addr × Obj)) : Cv := { X with toCx := X.toCx.suite a ((a, oe) :: pn) }
structure Caught (K : PySem.W.Frag) (s : String) (dd : Addr) (oe : Obj) : Prop where
  z : L2N.Zn (clsV K (.type s)) (some dd) oe
  f : ∃ vs, oe.data = .fields vs
/-- tab: of which classes, and whether they are caught -/
abbrev XTab := String → Option Bool
def vTryAs (i : Nat) (tab : XTab) (tb : VTS) (ts : Addr → Addr → String → VTS) : VTS := fun N ε => tb { nx := N.nx, rt := N.rt, bk := N.bk, ct := N.ct, rx := fun cls row ε' => ∃ s c, cls = .type s ∧ tab s = some c ∧
  ((c = true ∧ isFz row = true ∧ i < ε'.length ∧ ∀ a dd, ts a dd s { nx := fun ε2 => N.nx (ε2.set i none), rt := N.rt, bk := fun ε2 => N.bk (ε2.set i none), ct := fun ε2 => N.ct (ε2.set i none), rx := fun _ _ _ => False } (ε'.set i (some (.exn a dd (.type s) row)))) ∨ (c = false ∧ N.rx cls row ε')) } ε
def vTryO (tab : XTab) (tb ts : VTS) : VTS := fun N ε => tb { nx := N.nx, rt := N.rt, bk := N.bk, ct := N.ct, rx := fun cls row ε' => ∃ s c, cls = .type s ∧ tab s = some c ∧
  ((c = true ∧ isFz row = true ∧ ts { nx := N.nx, rt := N.rt, bk := N.bk, ct := N.ct, rx := fun _ _ _ => False } ε') ∨ (c = false ∧ N.rx cls row ε')) } ε
section
variable {X : Cv} {x n : Str} {c : Value} {i : Nat} {tab : XTab} {body suite : List Stmt} {b₀ : Stmt} {np pos pos' : Pos} {tb : VTS}
theorem takes_noX {Y : Cx} : Takes Y (fun _ _ _ _ => False) := fun _ _ ⟨_, _, _, _, _, _, _, _, _, _, _, _, _, _, _, _, w⟩ => w.elim
/-- the body's reading, alike for all that is pinned -/
theorem try_body (hb : ∀ pn xe, PassesOwn (model X.prog X.w) X.A X.env xe → VSs (trX X pn xe) body tb) : ∃ u : WX → TS, (∀ W pn xe, Takes (X.toCx.tr pn xe) W → PassesOwn (model X.prog X.w) X.A X.env xe → PSs (X.toCx.tr pn xe) body (u W)) ∧
    ∀ (b : Bx X) σ H ε T Tv W N E, SI X.K b.1 σ H ε T Tv → tb N ε → EL X.K b.1 T Tv N E → XL X.K b.1 T Tv W N.rx → u W E σ H := by
  obtain ⟨f, hf⟩ := Classical.axiomOfChoice (fun p : { p : List (Addr × Obj) × (Value → Shared → Prop) // PassesOwn (model X.prog X.w) X.A X.env p.2 } => (hb p.1.1 p.1.2 p.2).ex)
  refine ⟨fun W D σ H => ∀ p, f p W D σ H, fun W pn xe tk hp => ⟨fun pins s σ H D I h => ((hf ⟨(pn, xe), hp⟩).1 W tk).run pins s σ H D I (h ⟨(pn, xe), hp⟩)⟩, fun b σ H ε T Tv W N E I q l x p => (hf p).2 b σ H ε T Tv W N E I q l x⟩
theorem try_suite {ts : Addr → Addr → String → VTS} (hsu : ∀ a dd s oe pn, (tab s).isSome = true → Caught X.K s dd oe → VSs (suX X a oe pn) (b₀ :: suite) (ts a dd s)) :
    ∃ u : Addr → Value → Option Addr → TS, (∀ a oe cls d pn, L2N.Zn cls d oe → (∃ vs, oe.data = .fields vs) → PSs (X.toCx.suite a ((a, oe) :: pn)) (b₀ :: suite) (u a cls d)) ∧
      ∀ (b : Bx X) σ H ε T Tv N E a dd s, (tab s).isSome = true → SI X.K b.1 σ H ε T Tv → ts a dd s N ε → EL X.K b.1 T Tv N E → N.rx = (fun _ _ _ => False) → u a (clsV X.K (.type s)) (some dd) E σ H := by
  obtain ⟨f, hf⟩ := Classical.axiomOfChoice (fun p : { p : Addr × Addr × String × Obj × List (Addr × Obj) // (tab p.2.2.1).isSome = true ∧ Caught X.K p.2.2.1 p.2.1 p.2.2.2.1 } => (hsu p.1.1 p.1.2.1 p.1.2.2.1 p.1.2.2.2.1 p.1.2.2.2.2 p.2.1 p.2.2).ex)
  refine ⟨fun a cls d D σ H => ∃ dd s, cls = clsV X.K (.type s) ∧ d = some dd ∧ (tab s).isSome = true ∧ ∀ p, p.1.1 = a → p.1.2.1 = dd → p.1.2.2.1 = s → f p (fun _ _ _ _ => False) D σ H, fun a oe cls d pn hz hv => ⟨fun pins s σ H D I h => ?_⟩, fun b σ H ε T Tv N E a dd s ht I q l hx => ?_⟩
  · obtain ⟨dd, s', rfl, rfl, ht, h⟩ := h
    exact ((hf ⟨(a, dd, s', oe, pn), ht, hz, hv⟩).1 _ takes_noX).run pins s σ H D I (h ⟨(a, dd, s', oe, pn), ht, hz, hv⟩ rfl rfl rfl)
  · refine ⟨dd, s, rfl, rfl, ht, fun p e1 e2 e3 => ?_⟩
    subst e1 e2 e3
    exact (hf p).2 b σ H ε T Tv _ N E I q l fun cls dd σ H ε row v I e fr z => by rw [hx] at z; exact z
theorem vs_tryAs {ts : Addr → Addr → String → VTS} (hs : X.stack = X.env :: X.outer) (hf : X.env.frame = some X.env.locals) (hN : X.N.Nodup) (hi : X.N[i]? = some n) (hln : X.env.kindOf n = some .local) (hk : X.κ[i]? ≠ some true) (hc : Names X.toCx x c)
    (ht : ∀ s d, tab s = some d → PySem.W.exmOne X.K (clsV X.K (.type s)) c = some d)
    (hb : ∀ pn xe, PassesOwn (model X.prog X.w) X.A X.env xe → VSs (trX X pn xe) body tb)
    (hsu : ∀ a dd s oe pn, (tab s).isSome = true → Caught X.K s dd oe → VSs (suX X a oe pn) (b₀ :: suite) (ts a dd s)) :
    VS X (.Try body [.ExceptHandler (some (.Name x np)) (some n) (b₀ :: suite) pos'] [] [] pos) (vTryAs i tab tb ts) := by
  obtain ⟨u, u1, u2⟩ := try_body hb
  obtain ⟨v, v1, v2⟩ := try_suite hsu
  refine ⟨fun W => fun D σ H => u (wAs X.K c i v W D) D σ H, fun W tk => L2N.ps_try_as hs hf hN hi hln hc tk (fun W pn xe tk hp => u1 W pn xe tk hp) v1, fun b σ H ε T Tv W N E I q l x => ?_⟩
  refine u2 b σ H ε T Tv _ _ E I q ⟨l.nx, l.rt, l.bk, l.ct⟩ ?_
  intro cls dd σ1 H1 ε1 row w J e fr z
  obtain ⟨s, d, rfl, et, z⟩ := z
  refine ⟨d, ht s d et, fun hd a na => ?_, fun hd => ?_⟩
  · rcases z with ⟨_, fz, hlen, z⟩ | ⟨e2, _⟩
    · refine v2 b _ _ _ T Tv _ _ a dd s (by rw [et]; rfl) (SI.exn J I.lenT e fr fz hlen (b.free hk)) (z a dd) ⟨fun σ' H' ε' J' z' => l.nx _ _ _ (J'.clr (b.free hk)) z', l.rt, fun σ' H' ε' J' z' => l.bk _ _ _ (J'.clr (b.free hk)) z', fun σ' H' ε' J' z' => l.ct _ _ _ (J'.clr (b.free hk)) z'⟩ rfl
    · rw [hd] at e2; cases e2
  · rcases z with ⟨e2, _⟩ | ⟨_, z⟩
    · rw [hd] at e2; cases e2
    · exact x (.type s) dd σ1 H1 ε1 row w J e fr z
theorem vs_tryO {ts : VTS} (hs : X.stack = X.env :: X.outer) (hf : X.env.frame = some X.env.locals) (hc : Names X.toCx x c)
    (ht : ∀ s d, tab s = some d → PySem.W.exmOne X.K (clsV X.K (.type s)) c = some d)
    (hb : ∀ pn xe, PassesOwn (model X.prog X.w) X.A X.env xe → VSs (trX X pn xe) body tb)
    (hsu : ∀ a oe pn, VSs (suX X a oe pn) (b₀ :: suite) ts) :
    VS X (.Try body [.ExceptHandler (some (.Name x np)) none (b₀ :: suite) pos'] [] [] pos) (vTryO tab tb ts) := by
  obtain ⟨u, u1, u2⟩ := try_body hb
  obtain ⟨v, v1, v2⟩ := try_suite (tab := tab) (ts := fun _ _ _ => ts) fun a _ _ oe pn _ _ => hsu a oe pn
  refine ⟨fun W => fun D σ H => u (wMany X.K W D [(c, v)]) D σ H, fun W tk => L2N.ps_try_many hs hf tk (fun W pn xe tk hp => u1 W pn xe tk hp) (.cons hc v1 .nil), fun b σ H ε T Tv W N E I q l x => ?_⟩
  refine u2 b σ H ε T Tv _ _ E I q ⟨l.nx, l.rt, l.bk, l.ct⟩ ?_
  intro cls dd σ1 H1 ε1 row w J e fr z
  obtain ⟨s, d, rfl, et, z⟩ := z
  refine ⟨d, ht s d et, fun hd a na => ?_, fun hd => ?_⟩
  · rcases z with ⟨_, fz, z⟩ | ⟨e2, _⟩
    · exact v2 b _ _ _ T Tv _ _ a dd s (by rw [et]; rfl) (J.drop I.lenT) z ⟨l.nx, l.rt, l.bk, l.ct⟩ rfl
    · rw [hd] at e2; cases e2
  · rcases z with ⟨e2, _⟩ | ⟨_, z⟩
    · rw [hd] at e2; cases e2
    · exact x (.type s) dd σ1 H1 ε1 row w J e fr z
end
end VL
/-! VL47: what an except suite asks of its exception. -/
namespace VL
open PySem PySem.Spec PyProof.Rows L2 VL
section
variable {prog : Program} {w : World} {A : Around} {E : Value → Shared → Prop} {s : Shared} {K : PySem.W.Frag} {x C : Addr} {ox : Obj} {od : Option Obj}
open PySem.W PySem.Calls
theorem found_data {D : Addr} {nm : Str} {a1 g1 : Value} (h1 : (clsIn K D).isSome = true) (h2 : findIn K (.ref D) nm = some (some a1)) (h3 : specialIn K a1 "__get__" = some (some g1)) (h4 : takesIn K a1 = some true) : findObj K D od nm = some (.bind g1 a1) := by
  obtain ⟨cd1, h1⟩ := Option.isSome_iff_exists.mp h1
  unfold findObj
  rw [h1, Option.bind_some, h2, Option.bind_some]
  simp [h3, h4]
theorem cls_of_exc {Q : Option Value → Shared → Prop} (T : ExcC K C) (KI : K.In s.heap) (J : InstAt s.heap x ox C od) (q : Q (some (.ref C)) { s with toks := s.toks + 1 }) : wpAny (model prog w) A (getAttr? (.ref x) "__class__") Q E s := by
  obtain ⟨t1, t2, t3, t4, t5, t6, t7, t8⟩ := T
  have fo : findObj K C od "__class__" = some (.bind (.builtin "getset_descriptor.__get__") (.builtin "object.__class__")) := found_data (by obtain ⟨cd, hc, _⟩ := any_some t4; rw [hc]; rfl) t5 t6 t7
  obtain ⟨hp, gs, dr, tk, os⟩ := s
  have la := J.type (M := model prog w)
  have lb := looks_findIn (M := model prog w) KI t1
  have lc := looks_findIn (M := model prog w) KI t2
  have ld := looks_find (M := model prog w) KI J fo
  have sb : W.Looks (model prog w) hp (isInstance (.ref x) (.type "BaseException")) true := la.andThen (looks_subIn KI t3)
  have z0 : (false && onTheHeap (Value.builtin "BaseException.__getattribute__")) = false := rfl
  have z2 : (Value.builtin "BaseException.__getattribute__" == Value.builtin "object.__getattribute__") = false := by decide +kernel
  have z1 : (onTheHeap (Value.ref C) && Value.builtin "BaseException.__getattribute__" == Value.builtin "object.__getattribute__") = false := by rw [z2]; rfl
  unfold getAttr? getAttrBy? getAttrBy
  refine wpAny_bind (wpAny_mkText (wpAny_bind (wpAny_attempt (wpAny_holding (wpAny_bind (la.at (wpAny_bind (lb.at ?_))))))))
  show wpAny _ _ (if (onTheHeap (Value.ref C) && Value.builtin "BaseException.__getattribute__" == Value.builtin "object.__getattribute__") = true then _ else _) _ _ _
  rw [z1, if_neg Bool.false_ne_true]
  unfold getAttrByItsOwn hookBefore
  refine wpAny_bind ?_
  rw [if_pos (show onTheHeap (Value.ref C) = true from rfl)]
  refine lc.at ?_
  refine wpAny_bind (wpAny_attempt (wpAny_holding ?_))
  unfold callGetattribute
  rw [z0, if_neg Bool.false_ne_true]
  unfold boundAndCalled
  rw [PySem.F.excAttr_ValueError.ga.bind (.ref x)]
  refine wpAny_bind (wpAny_pure ?_)
  show wpAny _ _ (call (.builtin "BaseException.__getattribute__") [.ref x, .str "__class__" tk]) _ _ _
  refine wpAny_call (codeAny_call_builtin PySem.F.excAttr_ValueError.ga.plain PySem.F.entry_bexc_ga ?_)
  refine @check_slot (model prog w) _ _ ⟨hp, gs, dr, tk + 1, os⟩ "BaseException.__getattribute__" "BaseException" "__getattribute__" (.ref x) [.str "__class__" tk] [] _ (by decide +kernel) (by decide +kernel) sb (PySem.F.args_bexc_ga (.ref x) (.str "__class__" tk)) ?_
  unfold Builtin.«object.__getattribute__»
  refine wpAny_bind (wpAny_of_eq (a := ((Value.ref x : Value), [Value.str "__class__" tk])) (by first | rfl | (simp only [slotArgs]; rfl)) ?_)
  refine wpAny_bind (wpAny_pure (wpAny_bind (la.at (wpAny_bind (ld.at ?_)))))
  show wpAny _ _ (holding [Value.builtin "object.__class__"] (call (.builtin "getset_descriptor.__get__") [.builtin "object.__class__", .ref x, .ref C]) >>= ret) _ _ _
  refine wpAny_bind (wpAny_holding (wpAny_call (class_get (s := ⟨hp, gs, dr, tk + 1, os⟩) (ox := ox) (od := od) KI J t8 ?_)))
  refine wpAny_pure ?_
  show wpAny _ _ (handedOut (.ref C)) _ _ _
  rw [handedOut_of (v := .ref C) rfl]
  first
    | exact wpAny_pure (wpAny_pure q)
    | exact wpAny_pure q
    | exact wpAny_pure (wpAny_bind (wpAny_pure (wpAny_pure q)))
theorem kx_exc (T : ExcC K C) : KitX K (.ref x) (.ref C) (fun h => InstAt h x ox C od) where
  ty := fun _ _ _ J => J.type
  it := fun _ _ KI _ => by
    obtain ⟨c1, hc1, _⟩ := any_some T.hd
    unfold clsIn at hc1
    split at hc1
    · rename_i c' d' cd' sl' ho
      intro A' Q' E' s' k q
      unfold isType loadHead
      exact wpAny_bind (wpAny_loadPart (k _ _ (KI _ _ ho)) (wpAny_pure q))
    · cases hc1
  ne := fun h tp dd its n sl KI htp => by
    obtain ⟨c1, hc1, _⟩ := any_some T.hd
    refine Bool.eq_false_iff.mpr fun q => ?_
    have e : C = tp := Value.ref.inj (beq_iff_eq.mp q)
    subst e
    unfold clsIn at hc1
    split at hc1
    · rename_i c' d' cd' sl' ho
      have z := (KI _ _ ho).symm.trans htp
      cases z
    · cases hc1
  ca := fun KI J k => cls_of_exc T KI J k
end
def rIsX (K : PySem.W.Frag) (C a dd : Addr) : List V → Hp → VK → Prop := fun xs H Q => ∃ (c : V) (cv : Value) (r : Bool) (fs : List (Str × V)), xs = [.ref a, c] ∧ (∀ u, RelV c u → u = cv) ∧ PySem.W.kitOne K (.ref C) cv = some r ∧ H dd = some (.xd fs) ∧ Q (.bl r) H
theorem call_isX {X : Cx} {a dd C : Addr} {oe : Obj} {pn : List (Addr × Obj)} (T : ExcC X.K C) (hz : Zc (.ref C) (some dd) oe) (hf : ∃ vs, oe.data = .fields vs) : CallR (X.suite a ((a, oe) :: pn)) (.builtin "isinstance") (rIsX X.K C a dd) := by
  intro pins s σ H xs us Q I r h
  obtain ⟨c, cv, rb, fs, rfl, hcv, e, ed, q⟩ := h
  cases r with
  | cons rx rr =>
    cases rr with
    | cons rt rr =>
      cases rr
      cases rx
      have ec := hcv _ rt
      subst ec
      obtain ⟨hget, _⟩ := I.pin (a, oe) (List.mem_append.mpr (.inl List.mem_cons_self))
      obtain ⟨vs, hv⟩ := hf
      have hx : ObjOk X.prog X.w H s.heap dd (.xd fs) := I.hok dd _ ed
      obtain ⟨mA, hns, hr⟩ := hx
      obtain ⟨o2, ho2, _⟩ := lookIn_ns hns
      have J : PySem.W.InstAt s.heap a oe C (some o2) := ⟨hget, hz.1, by unfold PySem.W.notCls; rw [hv] <;> rfl, by rw [hz.2]; exact ho2⟩
      exact PySem.W.kia_one (kx_exc T) I.kIn J e (fun z => nomatch z) fun tk => ⟨.bl rb, H, I.kept (t' := tk) fun _ _ z => z, rfl, q⟩
section
variable {X : Cv} {a dd : Addr} {s : String} {oe : Obj} {pn : List (Addr × Obj)} {i : Nat} {n : Str} {p p1 p2 pos : Pos}
def vIsE (a dd : Addr) (s : String) (i : Nat) (r : Bool) : VTE := fun _ ε Q => (∃ row, ε[i]? = some (some (.exn a dd (.type s) row))) ∧ Q (.bl r) ε
theorem SI.exnAt {K : PySem.W.Frag} {b : Bs} {σ : L2.St} {H : Hp} {ε : Ep} {T : List D} {Tv : List V} (I : SI K b σ H ε T Tv) {a dd : Addr} {cls : Value} {row : D} {i : Nat} (e : ε[i]? = some (some (.exn a dd cls row))) :
    σ[i]? = some (some (.ref a)) ∧ ∃ w, H dd = some (.xd [("row", w)]) ∧ (isFz row = true → SI K b σ H ε (T ++ [row]) (Tv ++ [w])) := by
  obtain ⟨G, F, Ft, J⟩ := I
  obtain ⟨ov, A, B, C, hs, rfl, r, _⟩ := J.slots.focus e
  obtain ⟨v, rfl, e1, w, e2, r⟩ := r
  subst e1
  refine ⟨hs, w, J.sub _ _ e2, fun fz => ?_⟩
  have := r.fz fz
  subst this
  exact ⟨G, _, Ft, J.push r⟩
theorem ve_isE {x : Str} {cv : Value} {cw : V} {r : Bool} (O : Oex X.K (Str.ofString s)) (C : Caught X.K s dd oe) (hN : X.N[i]? = some n) (hv : Vis X.env.scope n) (hgi : Gl X.toCx "isinstance") (hmi : X.mg "isinstance" = none)
    (hc : PE (suX X a oe pn).toCx (.Name x p2) (tC cw)) (hcv : ∀ u, RelV cw u → u = cv) (hk : PySem.W.kitOne X.K (.ref (He.ga X.K (Str.ofString s))) cv = some r)
    (hd : (n == ("__debug__" : Str)) = false := by decide) (hcd : (n == ("__classdict__" : Str)) = false := by decide)
    (h1 : starEach [.Name n p1, .Name x p2] X.env = (false, eval (.Name n p1) X.env) :: starEach [.Name x p2] X.env := by rfl) (h2 : starEach [.Name x p2] X.env = (false, eval (.Name x p2) X.env) :: starEach [] X.env := by rfl)
    (hpl : (backTo pos (starEach [.Name x p2] X.env)).any (·.1) = false := by rfl) :
    VE (suX X a oe pn) (.Call (.Name "isinstance" p) [.Name n p1, .Name x p2] [] pos) (vIsE a dd s i r) := by
  refine ⟨fun W => tCB (rIsX X.K (He.ga X.K (Str.ofString s)) a dd) (tCons (tVar i) (tCons (tC cw) tNil)), fun W tk => pe_callB (call_isX O.ec C.z.zc C.f) hgi hmi rfl (pa_cons (pe_var hN hv hd hcd) (pa_cons hc pa_nil h2) h1) (by decide) (by decide) h1 hpl, fun b σ H ε T Tv W N Q Q' I q k x => ?_⟩
  obtain ⟨⟨row, e⟩, q⟩ := q
  obtain ⟨hs, w, hw, _⟩ := I.exnAt e
  exact ⟨_, hs, _, cv, r, _, rfl, hcv, hk, hw, k (.bl r) _ _ _ (I.push fun _ => ⟨rfl, rfl⟩) q⟩
def vRowE (a dd : Addr) (s : String) (i : Nat) : VTE := fun _ ε Q => ∃ row, ε[i]? = some (some (.exn a dd (.type s) row)) ∧ isFz row = true ∧ Q row ε
theorem ve_rowE (O : Oex X.K (Str.ofString s)) (C : Caught X.K s dd oe) (hN : X.N[i]? = some n) (hv : Vis X.env.scope n)
    (hd : (n == ("__debug__" : Str)) = false := by decide) (hcd : (n == ("__classdict__" : Str)) = false := by decide)
    (hb : attributeBase (.Name n p1) "row" X.env (eval (.Name n p1) X.env) = eval (.Name n p1) X.env := by rfl) :
    VE (suX X a oe pn) (.Attribute (.Name n p1) "row" pos) (vRowE a dd s i) := by
  refine ⟨fun W => tXf a (clsV X.K (.type s)) (some dd) (He.ga X.K (Str.ofString s)) "row" (tVar i), fun W tk => pe_xf O.xf O.row C.z.zc C.f (pe_var hN hv hd hcd) hb, fun b σ H ε T Tv W N Q Q' I q k x => ?_⟩
  obtain ⟨row, e, fz, q⟩ := q
  obtain ⟨hs, w, hw, J⟩ := I.exnAt e
  exact ⟨_, hs, rfl, rfl, dd, _, w, rfl, hw, rfl, k row w _ _ (J fz) q⟩
end
end VL
/-! VL48: the facts of a law's exception classes; promises that may refuse. -/
namespace VL
open PySem PySem.Spec PyProof.Rows L2 VL
inductive XC where
  | own (s : String)
  | ty (s : String)
def XC.val (K : PySem.W.Frag) : XC → Value
  | .own s => .ref (He.ga K (Str.ofString s))
  | .ty s => .type s
/-- classes that are raised, and whether a clause catches them -/
def xtab : List (String × Bool) → XTab
  | [], _ => none
  | (t, b) :: r, s => if s = t then some b else xtab r s
theorem xtab_mem : ∀ {l : List (String × Bool)} {s : String} {d : Bool}, xtab l s = some d → s ∈ l.map (·.1)
  | (t, b) :: r, s, d, h => by
    unfold xtab at h
    by_cases e : s = t
    · rw [e]; exact List.mem_cons_self
    · rw [if_neg e] at h
      exact List.mem_cons_of_mem _ (xtab_mem h)
theorem xtab_some {l : List (String × Bool)} {s : String} (h : (xtab l s).isSome = true) : s ∈ l.map (·.1) := by
  obtain ⟨d, h⟩ := Option.isSome_iff_exists.mp h
  exact xtab_mem h
def ktab : List (String × Bool) → String → Bool
  | [], _ => false
  | (t, b) :: r, s => if s = t then b else ktab r s
def exOk (RL : List String) (ct : List (XC × XTab)) (kt : List (XC × (String → Bool))) (K : PySem.W.Frag) : Bool :=
  oexG K && ((RL.all fun s => oexA K (Str.ofString s)) && ((ct.all fun p => RL.all fun s => match p.2 s with | some d => decide (PySem.W.exmOne K (.ref (He.ga K (Str.ofString s))) (p.1.val K) = some d) | none => true) &&
    (kt.all fun p => RL.all fun s => decide (PySem.W.kitOne K (.ref (He.ga K (Str.ofString s))) (p.1.val K) = some (p.2 s)))))
section
variable {RL : List String} {ct : List (XC × XTab)} {kt : List (XC × (String → Bool))} {K : PySem.W.Frag}
theorem exOk_g (h : exOk RL ct kt K = true) : OexW K := oexG_ok (Bool.and_eq_true_iff.mp h).1
theorem exOk_o (h : exOk RL ct kt K = true) (s : String) (hs : s ∈ RL) : Oex K (Str.ofString s) :=
  oex_ok (exOk_g h) (List.all_eq_true.mp (Bool.and_eq_true_iff.mp (Bool.and_eq_true_iff.mp h).2).1 s hs)
theorem exOk_c (h : exOk RL ct kt K = true) {p : XC × XTab} (hp : p ∈ ct) (hn : ∀ s d, p.2 s = some d → s ∈ RL) (s : String) (d : Bool) (e : p.2 s = some d) : PySem.W.exmOne K (clsV K (.type s)) (p.1.val K) = some d := by
  have h1 := List.all_eq_true.mp (List.all_eq_true.mp (Bool.and_eq_true_iff.mp (Bool.and_eq_true_iff.mp (Bool.and_eq_true_iff.mp h).2).2).1 p hp) s (hn s d e)
  rw [e] at h1
  exact of_decide_eq_true h1
theorem exOk_k (h : exOk RL ct kt K = true) {p : XC × (String → Bool)} (hp : p ∈ kt) (s : String) (hs : s ∈ RL) : PySem.W.kitOne K (.ref (He.ga K (Str.ofString s))) (p.1.val K) = some (p.2 s) :=
  of_decide_eq_true (List.all_eq_true.mp (List.all_eq_true.mp (Bool.and_eq_true_iff.mp (Bool.and_eq_true_iff.mp (Bool.and_eq_true_iff.mp h).2).2).2 p hp) s hs)
end
/-- a function that may refuse -/
def Osp {α : Type} (args : α → List D) (pre : α → Prop) (f : α → Option D) (cl : String) : VSp := fun ds Q E => ∃ a, ds = args a ∧ pre a ∧ match f a with
  | some r => Q r (args a)
  | none => E (.type cl) .non (args a)
theorem Osp.mono {α : Type} {args : α → List D} {pre : α → Prop} {f : α → Option D} {cl : String} : Mono (Osp args pre f cl) := fun ds A A' B B' hA hB ⟨a, e, p, q⟩ => ⟨a, e, p, by
  cases h : f a with
  | some r => rw [h] at q; exact hA _ _ q
  | none => rw [h] at q; exact hB _ _ _ q⟩
/-- the base's __init__ -/
theorem ini_fn {P : Program} {w : World} {K : PySem.W.Frag} {mg : Str → Option Value} {base : Heap} {params : Arguments} {body : List Stmt} {scope : Scope} {k : Nat} (hF : ∃ fd, FunD K "__init__" "JumpError.__init__" params body scope [.non] [] (fiA K) fd) (S : FnScope ["self", "row"] ["self", "row"] scope)
    (hbd : ∀ {f fd}, FunD K "__init__" "JumpError.__init__" params body scope [.non] [] f fd → ∃ ds, Vals [.non] ds ∧ Binds K fd ["self", "row"] ds)
    (hb : ∀ (cdv : Value) (A : Around) (outer : List Env) (s : Shared) (H : Hp) (E : XK), PSs (cxOf (VL.CX P w) P w K mg base ["self", "row"] "JumpError.__init__" scope (fiA K) cdv A outer s H E) body (tIni K)) : ExFn P w K mg base (k + 1) := by
  obtain ⟨fd, F⟩ := hF
  obtain ⟨ds, h1, h2⟩ := hbd F
  exact ⟨fd, ds, h1, h2, init_ok F S hb⟩
end VL
/-! VL49: the program's own classes: fields, methods, new instances. -/
namespace VL
open PySem PySem.Spec PyProof.Rows L2 VL
theorem fzip_none : ∀ {fs : List Cs} {vs : List V} {f : Cs}, fdIx fs f = none → (fzip fs vs).lookup (toS f) = none
  | [], vs, f, _ => rfl
  | g :: fs, [], f, _ => rfl
  | g :: fs, w :: vs, f, h => by
    unfold fdIx at h
    rw [List.idxOf?_cons] at h
    show ((toS g, w) :: fzip fs vs).lookup (toS f) = none
    by_cases e : g = f
    · subst e
      simp at h
    · have e1 : (g == f) = false := by simpa using e
      rw [e1] at h
      have h2 : fdIx fs f = none := by simpa [fdIx] using h
      have e2 : (toS f == toS g) = false := by
        rw [beq_eq_false_iff_ne]
        intro z
        exact e (toS_inj z.symm)
      simp only [List.lookup, e2]
      exact fzip_none h2
theorem fzip_put : ∀ {fs : List Cs} {vs : List V} {f : Cs} {y : V}, fdIx fs f = none → fs.length = vs.length → putF (toS f) y (fzip fs vs) = fzip (fs ++ [f]) (vs ++ [y])
  | [], [], f, y, _, _ => rfl
  | [], _ :: _, _, _, _, h => by cases h
  | _ :: _, [], _, _, _, h => by cases h
  | g :: fs, w :: vs, f, y, h, hl => by
    unfold fdIx at h
    rw [List.idxOf?_cons] at h
    by_cases e : g = f
    · subst e
      simp at h
    · have e1 : (g == f) = false := by simpa using e
      rw [e1] at h
      have h2 : fdIx fs f = none := by simpa [fdIx] using h
      have e2 : ¬ toS g = toS f := fun z => e (toS_inj z)
      show putF (toS f) y ((toS g, w) :: fzip fs vs) = (toS g, w) :: fzip (fs ++ [f]) (vs ++ [y])
      unfold putF
      rw [if_neg e2, fzip_put h2 (Nat.succ.inj hl)]
section
variable {K : PySem.W.Frag} {b : Bs} {σ : L2.St} {H : Hp} {ε : Ep} {T : List D} {Tv : List V}
theorem SI.insAt (I : SI K b σ H ε T Tv) {i C : Nat} {fs : List Cs} {ds : List D} (e : ε[i]? = some (some (.ins true C fs ds))) : ∃ a dx vs, σ[i]? = some (some (.ref a)) ∧ H a = some (.ins (cA K C) dx (fzip fs vs)) := by
  obtain ⟨G, F, Ft, J⟩ := I
  obtain ⟨ov, A, B, C', hs, rfl, r, _⟩ := J.slots.focus e
  obtain ⟨v, rfl, a, dx, vs, F', rfl, ha, _, _, _⟩ := r
  exact ⟨a, dx, vs, hs, ha⟩
/-- a held thing becomes a field of an instance in a slot -/
theorem SI.fldNew {d : D} {v : V} (I : SI K b σ H ε (T ++ [d]) (Tv ++ [v])) (hl : T.length = Tv.length) {i C : Nat} {fs : List Cs} {ds : List D} {f : Cs} (e : ε[i]? = some (some (.ins true C fs ds))) (hf : fdIx fs f = none) :
    ∃ a dx vs, σ[i]? = some (some (.ref a)) ∧ H a = some (.ins (cA K C) dx (fzip fs vs)) ∧ fs.length = vs.length ∧ SI K b σ (upd H a (.ins (cA K C) dx (fzip (fs ++ [f]) (vs ++ [v])))) (ε.set i (some (.ins true C (fs ++ [f]) (ds ++ [d])))) T Tv := by
  obtain ⟨v0, v', G, B, FR, hs, at', su, r, rr, nd, fr, back⟩ := I.focus hl e (getP_nil ..)
  have e0 : v' = v0 := by cases at'; rfl
  subst e0
  obtain ⟨a, dx, vs, F', rfl, ha, rfl, hd, rl⟩ := r
  have hv := rl.len
  refine ⟨a, dx, vs, hs, ha, hd.trans hv, ?_⟩
  have nd0 : a ∉ F' ++ FR := (List.nodup_cons.mp (by simpa using nd)).1
  have keep : ∀ c, c ≠ a → upd H a (.ins (cA K C) dx (fzip (fs ++ [f]) (vs ++ [v]))) c = H c := fun c h => upd_ne h
  have J := back (upd H a (.ins (cA K C) dx (fzip (fs ++ [f]) (vs ++ [v])))) (.ins true C (fs ++ [f]) (ds ++ [d])) (a :: (F' ++ FR)) .non .non [] (fun c hc => keep c fun z => hc (by rw [z]; exact List.mem_cons_self)) ?_ ⟨rfl, rfl⟩ (.inl (by simp)) ⟨[], by simp⟩
  · exact (J.pop hl)
  · refine ⟨a, dx, vs ++ [v], F' ++ FR, rfl, upd_same, rfl, by simp [hd], ?_⟩
    refine (rl.mono Sub.refl fun c hc => keep c fun z => nd0 (by rw [← z]; exact List.mem_append_left _ hc)).append (rr.mono Sub.refl fun c hc => keep c fun z => nd0 (by rw [← z]; exact List.mem_append_right _ hc))
end
/-! ### self.f = e -/
section
variable {X : Cv}
def vFld (i C : Nat) (f : Cs) (t : VTE) : VTS := fun N ε => t N.rx ε fun d ε1 => ∃ fs ds, ε1[i]? = some (some (.ins true C fs ds)) ∧ fdIx fs f = none ∧ fs.length < 1000 ∧ N.nx (ε1.set i (some (.ins true C (fs ++ [f]) (ds ++ [d]))))
theorem vs_fld {i C : Nat} {n x : Str} {f : Cs} {e : Expr} {t : VTE} {p1 p2 pos : Pos} (h : VE X e t) (hN : X.N[i]? = some n) (hv : Vis X.env.scope n) (cl : Cls X.K (cA X.K C)) (na : NoAttr X.K (cA X.K C) x) (hx : x = toS f)
    (hd : (n == ("__debug__" : Str)) = false := by decide) (hcd : (n == ("__classdict__" : Str)) = false := by decide) (hs : swapsWith e (some (.Attribute (.Name n p1) x p2)) pos.line X.env = pure false := by rfl) : VS X (.Assign [.Attribute (.Name n p1) x p2] e pos) (vFld i C f t) := by
  subst hx
  obtain ⟨t', a1, a2⟩ := h.ex
  refine ⟨fun W => sFld X.K (tVar i) (t' W) (toS f), fun W tk => ps_fld (pe_var hN hv hd hcd) (a1 W tk) hs, fun b σ H ε T Tv W N E I q l x => ?_⟩
  refine a2 b σ H ε T Tv W N.rx _ _ I q (fun d v ε1 H1 J z => ?_) x
  obtain ⟨fs, ds, e1, hf, hl, z⟩ := z
  obtain ⟨a, dx, vs, hs, ha, hlen, J2⟩ := J.fldNew I.lenT e1 hf
  refine ⟨_, hs, a, cA X.K C, dx, _, rfl, ha, cl, na, ?_, ?_⟩
  · unfold fzip
    rw [List.length_zip, List.length_map]
    omega
  · rw [fzip_put hf hlen]
    exact l.nx σ _ _ J2 z
end
/-! ### methods -/
/-- a method that keeps a promise over trees -/
structure Mv (P : Program) (w : World) (K : PySem.W.Frag) (mg : Str → Option Value) (base : Heap) (C : Nat) (m : Str) (k n : Nat) (vsp : VSp) : Prop where
  ex : ∃ f fd ps, Meth K (cA K C) m f ∧ Binds K fd ps [] ∧ FnOk P w K mg base (VL.CX P w) k f fd ps (Lift K n vsp)
theorem Mv.mono {P w K mg base C m j k n vsp} (F : Mv P w K mg base C m j n vsp) (h : j ≤ k) : Mv P w K mg base C m k n vsp := let ⟨f, fd, ps, a, b, d⟩ := F.ex; ⟨f, fd, ps, a, b, d.mono h⟩
section
variable {X : Cx} {k : Nat} {f C : Addr} {fd : FuncData} {ps : List Str} {sp : Sp} {E : L2.St → XK} {m : Str} {pos apos : Pos} {e o : Expr} {es : List Expr} {ta : TE} {t : TA}
theorem pe_methX {pl : Sem Bool} (he : PE X o ta) (c : Cls X.K C) (hm : Meth X.K C m f) (F : FnOk X.prog X.w X.K X.mg X.base (VL.CX X.prog X.w) k f fd ps sp) (hr : Room k X.A) (hb : Binds X.K fd ps []) (hx : ∀ σ, PassesAt (VL.CX X.prog X.w) X σ (E σ)) (ha : PA X (e :: es) t)
    (h1 : starEach (e :: es) X.env = (false, eval e X.env) :: starEach es X.env := by rfl) (h2 : (backTo pos (starEach es X.env)).any (·.1) = false := by rfl)
    (h3 : eval (.Call (.Attribute o m apos) (e :: es) [] pos) X.env = (do
      let w ← eval o X.env
      standAt apos.atName
      let (g, r) ← holding [w] (getMethod w m pl)
      callWith pos g r (backTo pos (starEach (e :: es) X.env)) (backToKw pos (keywordEach [] X.env))) := by rfl) :
    PE X (.Call (.Attribute o m apos) (e :: es) [] pos) (L2H.tMethH C m sp E ta t) := by
  refine ⟨fun pins s σ H Q I h => ?_⟩
  refine PySem.W.methodCall_KW (pl := pl) (thn (he.run pins s σ H _ I h) fun z s1 ⟨y, H1, I1, ry, a, dx, gs, ey, ea, l, q⟩ => ?_) h3
  subst ey
  obtain rfl : z = Value.ref a := ry
  refine getmeth_ok I1 ea c hm l ?_
  exact PySem.W.callWith_K (first := [.ref a]) (h₀ := X.base) I.ok.mod.kin hm.kp (thn (ha.run pos pins s1 σ H1 _ I1 q) fun us s2 ⟨vs, H2, I2, r, q2⟩ => ⟨I2.kIn, run_fnSD (us := .ref a :: us) (vs := .ref a :: vs) (dvs := []) F hr hb .nil (hx σ) I2 (.cons rfl r) (by simpa using q2)⟩) h1 h2
theorem pe_methX0 {pl : Sem Bool} (he : PE X o ta) (c : Cls X.K C) (hm : Meth X.K C m f) (F : FnOk X.prog X.w X.K X.mg X.base (VL.CX X.prog X.w) k f fd ps sp) (hr : Room k X.A) (hb : Binds X.K fd ps []) (hx : ∀ σ, PassesAt (VL.CX X.prog X.w) X σ (E σ))
    (h3 : eval (.Call (.Attribute o m apos) [] [] pos) X.env = (do
      let w ← eval o X.env
      standAt apos.atName
      let (g, r) ← holding [w] (getMethod w m pl)
      callWith pos g r (backTo pos (starEach [] X.env)) (backToKw pos (keywordEach [] X.env))) := by rfl) :
    PE X (.Call (.Attribute o m apos) [] [] pos) (L2H.tMethH C m sp E ta tNil) := by
  refine ⟨fun pins s σ H Q I h => ?_⟩
  refine PySem.W.methodCall_KW (pl := pl) (thn (he.run pins s σ H _ I h) fun z s1 ⟨y, H1, I1, ry, a, dx, gs, ey, ea, l, q⟩ => ?_) h3
  subst ey
  obtain rfl : z = Value.ref a := ry
  refine getmeth_ok I1 ea c hm l ?_
  exact PySem.W.callWith_K0 (first := [.ref a]) I1.kIn hm.kp (run_fnSD (us := [.ref a]) (vs := [.ref a]) (dvs := []) F hr hb .nil (hx σ) I1 (.cons rfl .nil) q)
end
section
variable {X : Cv}
def vMeth (i C : Nat) (m : Cs) (vsp : VSp) (rs : List (Option Nat)) (t : VTA) : VTE := fun N ε Q => (∃ fs ds, ε[i]? = some (some (.ins true C fs ds)) ∧ fdIx fs m = none) ∧ t N ε fun ds ε1 => ∃ d, ε1[i]? = some (some d) ∧
  vsp (d :: ds) (fun r ds' => ds'.length = ds.length + 1 ∧ Q r (restore (some i :: rs) ds' (ε1.set i none))) (fun cls row ds' => ds'.length = ds.length + 1 ∧ N cls row (restore (some i :: rs) ds' (ε1.set i none)))
theorem ve_meth {i C k n : Nat} {x m : Str} {mc : Cs} {p apos pos : Pos} {e : Expr} {es : List Expr} {rs : List (Option Nat)} {t : VTA} {vsp : VSp} (F : Mv X.prog X.w X.K X.mg X.base C m k n vsp) (mo : Mono vsp) (cl : Cls X.K (cA X.K C)) (hm : m = toS mc) (hr : Room k X.A) (hN : X.N[i]? = some x) (hv : Vis X.env.scope x)
    (hn : (e :: es).length + 1 = n) (ha : VA X (e :: es) rs t) (hrs : rs.length = (e :: es).length := by rfl) (hd : (x == ("__debug__" : Str)) = false := by decide) (hcd : (x == ("__classdict__" : Str)) = false := by decide)
    (h1 : starEach (e :: es) X.env = (false, eval e X.env) :: starEach es X.env := by rfl) (h2 : (backTo pos (starEach es X.env)).any (·.1) = false := by rfl) {pl : Sem Bool}
    (h3 : eval (.Call (.Attribute (.Name x p) m apos) (e :: es) [] pos) X.env = (do
      let w ← eval (.Name x p) X.env
      standAt apos.atName
      let (g, r) ← holding [w] (getMethod w m pl)
      callWith pos g r (backTo pos (starEach (e :: es) X.env)) (backToKw pos (keywordEach [] X.env))) := by rfl) :
    VE X (.Call (.Attribute (.Name x p) m apos) (e :: es) [] pos) (vMeth i C mc vsp rs t) := by
  subst hm
  obtain ⟨f, fd, ps, hm, hb, F⟩ := F.ex
  obtain ⟨u', k1, k2⟩ := ha.ex
  refine ⟨fun W => L2H.tMethH (cA X.K C) (toS mc) (Lift X.K n vsp) (WE W) (tVar i) (u' W), fun W tk => pe_methX (pe_var hN hv hd hcd) cl hm F hr hb (fun σ => passAt tk σ) (k1 W tk) h1 h2 h3, fun b σ H ε T Tv W N Q Q' I q kk xl => ?_⟩
  obtain ⟨⟨fs, ds0, e0, nf⟩, q⟩ := q
  obtain ⟨a, dx, vs0, hs, h0⟩ := I.insAt e0
  refine ⟨_, hs, a, dx, _, rfl, h0, fzip_none nf, ?_⟩
  refine k2 b σ H ε T Tv W N _ _ I q (fun ds vs ε2 H2 J l hh q2 => ?_) xl
  obtain ⟨d, e, q2⟩ := q2
  obtain ⟨v', hs', J2⟩ := J.mov e
  rw [hs] at hs'
  cases hs'
  have J3 := SI.swap (A := ds) (B := [d]) (C := []) (Av := vs) (Bv := [.ref a]) (Cv := []) (by simpa only [List.append_assoc, List.append_nil] using J2) I.lenT l rfl
  have hl : (d :: ds).length = ((V.ref a) :: vs).length := by simp [l]
  exact call_run (ds := d :: ds) (vs := .ref a :: vs) (rs := some i :: rs) I.lenT hl (by rw [← hn, ← hrs, hh.len, ← l]; rfl) (by simpa using J3) ⟨hs, hh⟩ q2 (mo (d :: ds)) kk xl
theorem ve_meth0 {i C k : Nat} {x m : Str} {mc : Cs} {p apos pos : Pos} {vsp : VSp} (F : Mv X.prog X.w X.K X.mg X.base C m k 1 vsp) (mo : Mono vsp) (cl : Cls X.K (cA X.K C)) (hm : m = toS mc) (hr : Room k X.A) (hN : X.N[i]? = some x) (hv : Vis X.env.scope x)
    (hd : (x == ("__debug__" : Str)) = false := by decide) (hcd : (x == ("__classdict__" : Str)) = false := by decide) {pl : Sem Bool}
    (h3 : eval (.Call (.Attribute (.Name x p) m apos) [] [] pos) X.env = (do
      let w ← eval (.Name x p) X.env
      standAt apos.atName
      let (g, r) ← holding [w] (getMethod w m pl)
      callWith pos g r (backTo pos (starEach [] X.env)) (backToKw pos (keywordEach [] X.env))) := by rfl) :
    VE X (.Call (.Attribute (.Name x p) m apos) [] [] pos) (vMeth i C mc vsp [] vaNil) := by
  subst hm
  obtain ⟨f, fd, ps, hm, hb, F⟩ := F.ex
  refine ⟨fun W => L2H.tMethH (cA X.K C) (toS mc) (Lift X.K 1 vsp) (WE W) (tVar i) tNil, fun W tk => pe_methX0 (pe_var hN hv hd hcd) cl hm F hr hb (fun σ => passAt tk σ) h3, fun b σ H ε T Tv W N Q Q' I q kk xl => ?_⟩
  obtain ⟨⟨fs, ds0, e0, nf⟩, d, e, q⟩ := q
  obtain ⟨a, dx, vs0, hs, h0⟩ := I.insAt e0
  refine ⟨_, hs, a, dx, _, rfl, h0, fzip_none nf, ?_⟩
  obtain ⟨v', hs', J2⟩ := I.mov e
  rw [hs] at hs'
  cases hs'
  exact call_run (ds := [d]) (vs := [.ref a]) (rs := [some i]) I.lenT rfl rfl J2 ⟨hs, trivial⟩ q (mo [d]) kk xl
/-! ### a new instance -/
def vNew (C : Nat) (vsp : VSp) (rs : List (Option Nat)) (t : VTA) : VTE := fun N ε Q => t N ε fun ds ε1 => vsp (.ins true C [] [] :: ds) (fun r ds' => r = .non ∧ ∃ o rest, ds' = o :: rest ∧ rest.length = ds.length ∧ Q o (restore rs rest ε1)) (fun _ _ _ => False)
theorem ve_new {C k n : Nat} {x : Str} {f : Addr} {fd : FuncData} {ps : List Str} {p pos : Pos} {e : Expr} {es : List Expr} {rs : List (Option Nat)} {t : VTA} {vsp : VSp} (M : L2.Mk X.K (cA X.K C) f) (hb : Binds X.K fd ps []) (F : FnOk X.prog X.w X.K X.mg X.base (VL.CX X.prog X.w) k f fd ps (Lift X.K n vsp)) (mo : Mono vsp)
    (hr : Room (k + 1) X.A) (hg : Gl X.toCx x) (hm : X.mg x = some (.ref (cA X.K C))) (hn : (e :: es).length + 1 = n) (ha : VA X (e :: es) rs t) (hrs : rs.length = (e :: es).length := by rfl)
    (hdb : (x == ("__debug__" : Str)) = false := by decide) (he : starEach (e :: es) X.env = (false, eval e X.env) :: starEach es X.env := by rfl) (hpl : (backTo pos (starEach es X.env)).any (·.1) = false := by rfl) :
    VE X (.Call (.Name x p) (e :: es) [] pos) (vNew C vsp rs t) := by
  obtain ⟨u', k1, k2⟩ := ha.ex
  refine ⟨fun W => tMake (cA X.K C) (Lift X.K n vsp) [] (fun _ _ _ => False) (u' W), fun W tk => pe_make M F hr hg hm hb .nil (fun _ _ _ _ _ _ _ h => by obtain ⟨_, _, _, _, _, _, _, _, _, _, _, _, z⟩ := h; exact z.elim) (k1 W tk) hdb he hpl, fun b σ H ε T Tv W N Q Q' I q kk xl => ?_⟩
  refine k2 b σ H ε T Tv W N _ _ I q (fun ds vs ε1 H1 J l hh z => ?_) xl
  intro y dx ny nd ne
  have Hy : (upd H1 dx (.own y)) y = none := by rw [upd_ne (Ne.symm ne)]; exact ny
  have J1 := J.grow (Sub.laid (o := .own y) nd)
  have J2 := SI.laid (T := T ++ ds) (Tv := Tv ++ vs) (ds := []) (vs := []) (d := .ins true C [] []) (by simpa using J1) J.lenT Hy (.ins (cA X.K C) dx []) fun G H' F e r => ⟨y, dx, [], F, rfl, e, rfl, rfl, r⟩
  have J3 := SI.swap (A := ds) (B := [.ins true C [] []]) (C := []) (Av := vs) (Bv := [.ref y]) (Cv := []) (by simpa only [List.append_assoc, List.append_nil] using J2) I.lenT l rfl
  have J4 : SI X.K b.1 σ (upd (upd H1 dx (.own y)) y (.ins (cA X.K C) dx [])) ε1 (T ++ (.ins true C [] [] :: ds)) (Tv ++ (.ref y :: vs)) := by simpa using J3
  obtain ⟨G, F', K0, out, fr⟩ := J4.enter I.lenT
  have hlen : (D.ins true C [] [] :: ds).length = n := by rw [← hn, ← hrs, hh.len, ← l]; rfl
  refine ⟨G, F', .ins true C [] [] :: ds, by simpa using K0, hlen, mo _ _ _ _ _ (fun r ds' z2 v H' I' => ?_) (fun _ _ _ z2 => z2.elim) z⟩
  obtain ⟨rfl, o, rest, rfl, hl2, z2⟩ := z2
  have I2 := out H' _ _ (by simpa using I')
  have hl3 : rest.length = vs.length := hl2.trans l
  have hT : (T ++ (o :: rest)).length = (Tv ++ (V.ref y :: vs)).length := by simp [I.lenT, hl3]
  have I3 : SI X.K b.1 σ H' ε1 ((T ++ (o :: rest)) ++ [.non]) ((Tv ++ (V.ref y :: vs)) ++ [v]) := by simpa using I2
  obtain ⟨_, _, _, ⟨rv, _⟩⟩ := I3.last hT
  refine ⟨rv, ?_⟩
  have I4 := I3.pop hT
  have I5 := SI.swap (A := [o]) (B := rest) (C := []) (Av := [.ref y]) (Bv := vs) (Cv := []) (by simpa using I4) I.lenT rfl hl3
  have I6 := SI.restore I.lenT hh hl3 (by simpa using I5)
  exact kk o (.ref y) _ H' I6 z2
end
end VL
/-! VL50: try .. except .. else where the context is told; defs called within an except suite. -/
namespace VL
open PySem PySem.Spec PyProof.Rows L2 VL
section
variable {body suite : List Stmt} {b₀ : Stmt} {X : Cx} {x : Str} {c : Value} {np pos pos' : Pos} {Wout : WX} {tb : WX → TS} {ts : Addr → Value → Option Addr → TS}
theorem ps_try_elseN {els : List Stmt} {u : TS} (ho : PSs X els u) (hs : X.stack = X.env :: X.outer) (hf : X.env.frame = some X.env.locals) (hc : Names X x c) (tk : Takes X Wout)
    (hb : ∀ (Wq : WX) (pn : List (Addr × Obj)) (xq : Value → Shared → Prop), Takes (X.tr pn xq) Wq → PassesOwn (model X.prog X.w) X.A X.env xq → PSs (X.tr pn xq) body (tb Wq))
    (hsu : ∀ (a : Addr) (oe : Obj) (cls : Value) (d : Option Addr) (pn : List (Addr × Obj)), L2N.Zn cls d oe → (∃ vs, oe.data = .fields vs) → PSs (X.suite a ((a, oe) :: pn)) (b₀ :: suite) (ts a cls d)) :
    PS X (.Try body [.ExceptHandler (some (.Name x np)) none (b₀ :: suite) pos'] els [] pos) (fun Dn σ0 H => tb (wOnly X.K c ts Wout Dn) { Dn with nx := u Dn } σ0 H) := by
  refine ⟨fun pp s σ0 H Dn I h => ?_⟩
  have okx := I.ok
  have hfq : X.A.frames = some (X.env :: X.outer) := by rw [okx.frames, hs]
  refine wpAny_Try_except ?_
  refine wpAny_mono ((hb (wOnly X.K c ts Wout Dn) (X.pn ++ pp) (fun e s₁ => wpAny (model X.prog X.w) X.A (noteFrame e X.env) (fun _ s₂ => wpAny (model X.prog X.w) X.A (setFlight e none) (fun _ s₃ =>
    wpAny (model X.prog X.w) X.A (handleBy e X.env [.ExceptHandler (some (.Name x np)) none (b₀ :: suite) pos']) (SP X pp Dn) X.xe s₃) X.xe s₂) X.xe s₁) (fun u s' xx => ?_) PassesOwn.looking).run [] s σ0 H { Dn with nx := u Dn } (I.toTry _) h) (fun f s1 hq => ?_) (fun e s1 hev => hev)
  · -- the catch
    obtain ⟨a, B, sJ, pinz, σa, Ha, cls, d, rfl, M0, nbx, upx, air1, nax, osx, agx, b, hbx, hye, hnx⟩ := xx
    have M1 : Inv X pp σa Ha sJ := M0.ofTry okx
    have air2 : Sky B (X.env :: X.outer) a (L2N.Zn cls d) X.env.locals s'.heap := by rw [← hs]; exact air1
    show wpAny (model X.prog X.w) X.A (noteFrame (.ref a) X.env) _ _ _
    refine L2N.Sky.land L2N.Zn.steady hfq hf air2 fun hA f3l u3p => ?_
    have M3 : Inv X pp σa Ha { s' with heap := hA } := M1.landed nbx f3l.1 (upx.trans u3p) osx agx
    obtain ⟨o3e, v3s, g3e, g3z, g3d⟩ := f3l.there
    have notIn : ∀ {h : Heap} {o : Obj} {vs : Array Value}, h.FunFrames B (X.env :: X.outer) → h.get? a = some o → o.data = .fields vs → a ∉ frs (X.env :: X.outer) := fun {h o vs} ffx e ddx hmm => by
      obtain ⟨_, o', e', hnf⟩ := ffx.mem hmm
      rw [e] at e'; cases e'
      exact hnf _ ddx
    have nfx := notIn f3l.2.2.1 g3e g3d
    have nLo : a ≠ X.env.locals := fun z => nfx (List.mem_filterMap.mpr ⟨X.env, List.mem_cons_self, by rw [hf, z]⟩)
    have nFs : a ∉ X.fs := fun hmm => by
      obtain ⟨e, hev, q⟩ := List.mem_filterMap.mp hmm
      exact nfx (List.mem_filterMap.mpr ⟨e, List.mem_cons_of_mem _ hev, q⟩)
    have R3 := M3.suite g3e g3d nax nLo nFs
    refine wpAny_handleBy_cons (codeAny_handlers_test ?_) (by intro z; cases z)
    have lT : PySem.W.Looks (model X.prog X.w) hA (typeOf (.ref a)) cls := fun A1 Q1 E1 s1 k q => wpAny_typeOf_ref (k _ _ g3e) (by rw [g3z.1]; exact q)
    have lM := PySem.W.exm_one (M := model X.prog X.w) (M3.kIn) lT hbx
    have tst : ∀ {Q : Value → Shared → Prop} {E : Value → Shared → Prop}, Q c { s' with heap := hA } → wpAny (model X.prog X.w) (X.A.mark (some (.ref a))) (eval (.Name x np) X.env) Q E { s' with heap := hA } := fun {Q E} q => by
      obtain ⟨hgx, hdq, hmm | ⟨hmm, hvx, hnw⟩⟩ := hc
      · exact ld_glob (X := X.suite a ((a, o3e) :: (X.pn ++ pp))) R3 hgx hmm q hdq
      · exact ld_blt (X := X.suite a ((a, o3e) :: (X.pn ++ pp))) R3 hgx hmm hvx q hnw hdq
    refine tst (lM.here ?_)
    cases b with
    | true =>
      refine (codeAny_handlers_suite ?_)
      refine HandSPX.lands_againZ f3l fun hB f4l u4p => ?_
      have M4 : Inv X pp σa Ha { s' with heap := hB } := M1.landed nbx f4l.1 ((upx.trans u3p).trans u4p) osx agx
      obtain ⟨o4e, v4s, g4e, g4z, g4d⟩ := f4l.there
      have R4 := M4.suite g4e g4d nax nLo nFs
      refine wpAny_mono ((hsu a o4e cls d (X.pn ++ pp) g4z ⟨_, g4d⟩).run [] _ _ Ha _ R4 (hye rfl a nax)) (fun f s6 hq => ?_) (fun _ _ z => False.elim z)
      cases f with
      | next =>
        obtain ⟨σc, Hc, R6, qc⟩ := hq
        exact ⟨_, _, R6.unsuite okx, qc⟩
      | brk =>
        obtain ⟨σc, Hc, R6, qc⟩ := hq
        exact ⟨_, _, R6.unsuite okx, qc⟩
      | cont =>
        obtain ⟨σc, Hc, R6, qc⟩ := hq
        exact ⟨_, _, R6.unsuite okx, qc⟩
      | ret u =>
        obtain ⟨vc, σc, Hc, R6, rc6, qc⟩ := hq
        exact ⟨_, _, _, R6.unsuite okx, rc6, qc⟩
    | false =>
      show wpAny _ X.A (handleBy (Value.ref a) X.env []) _ _ _
      refine wpAny_handleBy_nil ?_
      obtain ⟨ka, kb, kc, oe, vs, Tq, oTq, tsq, hev, hz, hdv, hfi, hr⟩ := id f3l
      unfold PySem.passOn
      refine wpAny_bind (wpAny_field hev hdv hfi ?_)
      rw [if_neg (show ¬ ((Value.ref Tq == Value.none) = true) from by simp)]
      have fnn : wpAny (model X.prog X.w) X.A (setFlight (.ref a) X.env.frame) (fun _ s4x => wpAny (model X.prog X.w) X.A (throw (.ref a) : Sem Flow) (SP X pp Dn) X.xe s4x) X.xe { s' with heap := hA } := by
        rw [hf]
        refine HandSPX.setFlight_upZ f3l fun hB hh4x u4p => wpAny_throw (tk _ _ ?_)
        exact ⟨a, B, sJ, pp, σa, Ha, cls, d, rfl, M1, nbx, (upx.trans u3p).trans u4p, .inr (.inr (by rw [hs]; exact hh4x)), nax, osx, agx, hnx rfl⟩
      first
        | exact wpAny_bind (wpAny_pure (wpAny_bind fnn))
        | exact wpAny_bind fnn
  · cases f with
    | next =>
      obtain ⟨σa, Ha, M0, q⟩ := hq
      exact ho.run pp s1 σa Ha Dn (M0.ofTry okx) q
    | brk =>
      obtain ⟨σa, Ha, M0, q⟩ := hq
      exact ⟨σa, Ha, M0.ofTry okx, q⟩
    | cont =>
      obtain ⟨σa, Ha, M0, q⟩ := hq
      exact ⟨σa, Ha, M0.ofTry okx, q⟩
    | ret u =>
      obtain ⟨v, σa, Ha, M0, r, q⟩ := hq
      exact ⟨v, σa, Ha, M0.ofTry okx, r, q⟩
end
end VL
/-! VL51: fields read, copied; try with else; defs called within an except suite. -/
namespace VL
open PySem PySem.Spec PyProof.Rows L2 VL
section
variable {K : PySem.W.Frag} {b : Bs} {σ : L2.St} {H : Hp} {ε : Ep} {T : List D} {Tv : List V}
theorem SIx.newOwn {G F Ft} (J : SIx K b G F Ft σ H ε T Tv) {l : Addr} (n : H l = none) (o : HO) {d : D} (r : ∀ H', H' l = some o → Sub H H' → Rp K G H' d (.ref l) [l]) : SIx K b G F (Ft ++ [l]) σ (upd H l o) ε (T ++ [d]) (Tv ++ [.ref l]) := by
  have sg : Sub H (upd H l o) := Sub.laid n
  have J2 := J.grow sg
  have nl : l ∉ F ++ Ft := J.ne n
  refine ⟨J2.s0, J2.sub, J2.slots, J2.temps.append (RpL.one.mpr (r _ upd_same sg)), ?_, fun a z => ?_, fun a z => ?_, J2.gn, J2.keep, J2.kept⟩
  · rw [← List.append_assoc]
    refine List.nodup_append.mpr ⟨J.nd, by simp, fun a ha c hc e => ?_⟩
    rw [List.mem_singleton.mp hc] at e
    exact nl (e ▸ ha)
  · rw [← List.append_assoc] at z
    rcases List.mem_append.mp z with z | z
    · exact J.fr a z
    · rw [List.mem_singleton.mp z]; exact J.gne n
  · rw [← List.append_assoc] at z
    rcases List.mem_append.mp z with z | z
    · exact J.own a z
    · rw [List.mem_singleton.mp z]; exact J.h0 n
/-- a field of an instance in a slot -/
theorem SI.fldL (I : SI K b σ H ε T Tv) {i C j : Nat} {fs : List Cs} {ds xs : List D} {f : Cs} (e : ε[i]? = some (some (.ins true C fs ds))) (hf : fdIx fs f = some j) (hd : ds[j]? = some (.lst true xs)) (fz : isFzL xs = true) :
    ∃ a dx vs p us, σ[i]? = some (some (.ref a)) ∧ H a = some (.ins (cA K C) dx (fzip fs vs)) ∧ (fzip fs vs).lookup (toS f) = some (.ref p) ∧ H p = some (.lst us) ∧ ∀ l, H l = none → SI K b σ (upd H l (.lst us)) ε (T ++ [.lst true xs]) (Tv ++ [.ref l]) := by
  obtain ⟨G, F, Ft, J⟩ := I
  obtain ⟨ov, A, B, C', hs, rfl, r, _⟩ := J.slots.focus e
  obtain ⟨v, rfl, a, dx, vs, F', rfl, ha, rfl, hl, rl⟩ := r
  have hv := rl.len
  obtain ⟨w, A2, B2, C2, hw, rfl, rw2, _⟩ := rl.focus hd
  obtain ⟨p, us, F3, rfl, hp, rfl, ru⟩ := rw2
  have := ru.fz fz
  subst this
  refine ⟨a, dx, vs, p, us, hs, ha, fzip_look hf hw (hl.trans hv), hp, fun l n => ⟨G, _, _, J.newOwn n (.lst us) fun H' e2 sg => ⟨l, us, [], rfl, e2, rfl, ru.mono Sub.refl fun _ z => nomatch z⟩⟩⟩
theorem SI.fldK (I : SI K b σ H ε T Tv) {i C j : Nat} {fs : List Cs} {ds xs : List D} {ks : List Kc} {f : Cs} (e : ε[i]? = some (some (.ins true C fs ds))) (hf : fdIx fs f = some j) (hd : ds[j]? = some (.dK true ks xs)) (fz : isFzL xs = true) :
    ∃ a dx vs p us, σ[i]? = some (some (.ref a)) ∧ H a = some (.ins (cA K C) dx (fzip fs vs)) ∧ (fzip fs vs).lookup (toS f) = some (.ref p) ∧ H p = some (.dK (kzip ks us)) ∧ ∀ l, H l = none → SI K b σ (upd H l (.dK (kzip ks us))) ε (T ++ [.dK true ks xs]) (Tv ++ [.ref l]) := by
  obtain ⟨G, F, Ft, J⟩ := I
  obtain ⟨ov, A, B, C', hs, rfl, r, _⟩ := J.slots.focus e
  obtain ⟨v, rfl, a, dx, vs, F', rfl, ha, rfl, hl, rl⟩ := r
  have hv := rl.len
  obtain ⟨w, A2, B2, C2, hw, rfl, rw2, _⟩ := rl.focus hd
  obtain ⟨p, us, F3, rfl, hp, rfl, hk, nd, ru⟩ := rw2
  have := ru.fz fz
  subst this
  refine ⟨a, dx, vs, p, us, hs, ha, fzip_look hf hw (hl.trans hv), hp, fun l n => ⟨G, _, _, J.newOwn n (.dK (kzip ks us)) fun H' e2 sg => ⟨l, us, [], rfl, e2, rfl, hk, nd, ru.mono Sub.refl fun _ z => nomatch z⟩⟩⟩
end
section
variable {X : Cv} {i C : Nat} {n x : Str} {f : Cs} {p p1 p2 pos : Pos}
/-- list(self.f) -/
def vListF (i C : Nat) (f : Cs) : VTE := fun _ ε Q => ∃ fs ds j xs, ε[i]? = some (some (.ins true C fs ds)) ∧ fdIx fs f = some j ∧ ds[j]? = some (.lst true xs) ∧ isFzL xs = true ∧ Q (.lst true xs) ε
theorem ve_listF (hN : X.N[i]? = some n) (hv : Vis X.env.scope n) (cl : Cls X.K (cA X.K C)) (na : NoAttr X.K (cA X.K C) x) (hx : x = toS f) (hg : Gl X.toCx "list") (hm : X.mg "list" = none)
    (hd : (n == ("__debug__" : Str)) = false := by decide) (hcd : (n == ("__classdict__" : Str)) = false := by decide) (hb : attributeBase (.Name n p1) x X.env (eval (.Name n p1) X.env) = eval (.Name n p1) X.env := by rfl)
    (h1 : starEach [.Attribute (.Name n p1) x p2] X.env = (false, eval (.Attribute (.Name n p1) x p2) X.env) :: starEach [] X.env := by rfl) : VE X (.Call (.Name "list" p) [.Attribute (.Name n p1) x p2] [] pos) (vListF i C f) := by
  subst hx
  refine ⟨fun W => tCB _ (tCons (tFld X.K (tVar i) (toS f)) tNil), fun W tk => pe_callTy call_list_of hg hm rfl (pa_cons (pe_fld (pe_var hN hv hd hcd) hb) pa_nil h1) (by decide) (by decide) h1 rfl, fun b σ H ε T Tv W N Q Q' I q k xl => ?_⟩
  obtain ⟨fs, ds, j, xs, e, hf, hj, fz, q⟩ := q
  obtain ⟨a, dx, vs, p, us, hs, ha, hlk, hp, J⟩ := I.fldL e hf hj fz
  exact ⟨_, hs, a, cA X.K C, dx, _, _, rfl, ha, cl, na, hlk, p, us, rfl, .inl (.inl (.inl hp)), fun l hl => k _ _ ε _ (J l hl) q⟩
def vDictF (i C : Nat) (f : Cs) : VTE := fun _ ε Q => ∃ fs ds j ks xs, ε[i]? = some (some (.ins true C fs ds)) ∧ fdIx fs f = some j ∧ ds[j]? = some (.dK true ks xs) ∧ isFzL xs = true ∧ Q (.dK true ks xs) ε
theorem ve_dictF (hN : X.N[i]? = some n) (hv : Vis X.env.scope n) (cl : Cls X.K (cA X.K C)) (na : NoAttr X.K (cA X.K C) x) (hx : x = toS f) (hg : Gl X.toCx "dict") (hm : X.mg "dict" = none)
    (hd : (n == ("__debug__" : Str)) = false := by decide) (hcd : (n == ("__classdict__" : Str)) = false := by decide) (hb : attributeBase (.Name n p1) x X.env (eval (.Name n p1) X.env) = eval (.Name n p1) X.env := by rfl)
    (h1 : starEach [.Attribute (.Name n p1) x p2] X.env = (false, eval (.Attribute (.Name n p1) x p2) X.env) :: starEach [] X.env := by rfl) : VE X (.Call (.Name "dict" p) [.Attribute (.Name n p1) x p2] [] pos) (vDictF i C f) := by
  subst hx
  refine ⟨fun W => tCB _ (tCons (tFld X.K (tVar i) (toS f)) tNil), fun W tk => pe_callTy call_dictD hg hm rfl (pa_cons (pe_fld (pe_var hN hv hd hcd) hb) pa_nil h1) (by decide) (by decide) h1 rfl, fun b σ H ε T Tv W N Q Q' I q k xl => ?_⟩
  obtain ⟨fs, ds, j, ks, xs, e, hf, hj, fz, q⟩ := q
  obtain ⟨a, dx, vs, p, us, hs, ha, hlk, hp, J⟩ := I.fldK e hf hj fz
  exact ⟨_, hs, a, cA X.K C, dx, _, _, rfl, ha, cl, na, hlk, p, _, rfl, .inl hp, fun l hl => k _ _ ε _ (J l hl) q⟩
/-- a view's field -/
def wFld (C : Nat) (f : Cs) (t : VTV) : VTV := fun ε Q => t ε fun d => ∃ fs ds j y, d = .ins false C fs ds ∧ fdIx fs f = some j ∧ ds[j]? = some y ∧ Q y
theorem wv_fld {e : Expr} {t : VTV} (h : VV X e t) (cl : Cls X.K (cA X.K C)) (na : NoAttr X.K (cA X.K C) x) (hx : x = toS f) (hb : attributeBase e x X.env (eval e X.env) = eval e X.env := by rfl) : VV X (.Attribute e x pos) (wFld C f t) := by
  subst hx
  obtain ⟨t', h1, h2⟩ := h.ex
  refine ⟨fun W => tFld X.K (t' W) (toS f), fun W tk => pe_fld (h1 W tk) hb, fun b σ H ε T Tv W Q Q' I q k => ?_⟩
  refine h2 b σ H ε T Tv W _ _ I q fun d v H1 s1 r1 z => ?_
  obtain ⟨fs, ds, j, y, rfl, hf, hj, z⟩ := z
  obtain ⟨a, dx, vs, rfl, ha, _, hl, rl⟩ := r1
  obtain ⟨w, hw, rw2⟩ := rl.get hj
  exact ⟨a, cA X.K C, dx, _, w, rfl, ha, cl, na, fzip_look hf hw (hl.trans rl.len), k y w H1 s1 rw2 z⟩
/-- a view that is plain, quietly -/
theorem vq_view {e : Expr} {t : VTV} (h : VV X e t) : VQ X e (vView t) := by
  obtain ⟨t', h1, h2⟩ := h.ex
  refine ⟨t', h1, fun b σ H ε T Tv W N Q Q' I q k x => ?_⟩
  refine h2 b σ H ε T Tv W _ _ I q fun d v H1 s1 r1 z => ?_
  refine k d v ε H1 s1 ((I.grow s1).push fun G => ?_) z.2
  obtain ⟨z, _⟩ := z
  cases d <;> first | (exfalso; revert z; simp [flatD]; done) | exact r1
/-- a method asked of a view -/
def wMet (C : Nat) (m : Cs) (vsp : VSp) (t : VTV) (u : VTVs) : VTV := fun ε Q => t ε fun d => (∃ fs ds, d = .ins false C fs ds ∧ fdIx fs m = none) ∧ u ε fun ds => vsp (d :: ds) (fun r _ => Q (frz r)) (fun _ _ _ => False)
theorem wv_met {k nn : Nat} {o e : Expr} {es : List Expr} {m : Str} {mc : Cs} {apos : Pos} {t : VTV} {u : VTVs} {vsp : VSp} (F : Mv X.prog X.w X.K X.mg X.base C m k nn vsp) (mo : Mono vsp) (cl : Cls X.K (cA X.K C)) (hm : m = toS mc) (hr : Room k X.A) (ho : VV X o t) (hn : (e :: es).length + 1 = nn) (ha : VVs X (e :: es) u)
    (h1 : starEach (e :: es) X.env = (false, eval e X.env) :: starEach es X.env := by rfl) (h2 : (backTo pos (starEach es X.env)).any (·.1) = false := by rfl) {pl : Sem Bool}
    (h3 : eval (.Call (.Attribute o m apos) (e :: es) [] pos) X.env = (do
      let w ← eval o X.env
      standAt apos.atName
      let (g, r) ← holding [w] (getMethod w m pl)
      callWith pos g r (backTo pos (starEach (e :: es) X.env)) (backToKw pos (keywordEach [] X.env))) := by rfl) :
    VV X (.Call (.Attribute o m apos) (e :: es) [] pos) (wMet C mc vsp t u) := by
  subst hm
  obtain ⟨f, fd, ps, hm, hb, F⟩ := F.ex
  obtain ⟨t', o1, o2⟩ := ho.ex
  obtain ⟨u', a1, a2⟩ := ha.ex
  refine ⟨fun W => L2H.tMethH (cA X.K C) (toS mc) (Lift X.K nn vsp) (WE W) (t' W) (u' W), fun W tk => pe_methX (o1 W tk) cl hm F hr hb (fun σ => passAt tk σ) (a1 W tk) h1 h2 h3, fun b σ H ε T Tv W Q Q' I q kk => ?_⟩
  refine o2 b σ H ε T Tv W _ _ I q fun d v H1 s1 rd z => ?_
  obtain ⟨⟨fs, ds0, rfl, nf⟩, z⟩ := z
  obtain ⟨a, dx, vs0, rfl, h0, _, hl0, rl0⟩ := id rd
  refine ⟨a, dx, _, rfl, h0, fzip_none nf, ?_⟩
  refine a2 b σ H1 ε T Tv W _ _ (I.grow s1) z fun ds vs H2 s2 rr l z => ?_
  have rr2 : RpL X.K H2 H2 (.ins false C fs ds0 :: ds) (.ref a :: vs) [] := by
    have := (RpL.one.mpr (rd.up s2)).append rr
    simpa using this
  refine ⟨H2, [], .ins false C fs ds0 :: ds, si_view rr2, by rw [← hn, List.length_cons, l], mo _ _ _ _ _ (fun r ds' q' v H' I' => ?_) (fun _ _ _ z => z.elim) z⟩
  have l2 : ds'.length = (V.ref a :: vs).length := by
    have := I'.lenT
    simpa using this
  obtain ⟨G, F, su, rv⟩ := I'.last l2
  have s3 : Sub H2 H' := by
    obtain ⟨G2, F2, Ft2, J2⟩ := I'
    exact fun p o e => J2.keep p o e (fun z => nomatch z)
  exact kk (frz r) v H' (s1.trans (s2.trans s3)) (rv.view su) q'
end
end VL
/-! VL52: try .. except .. else; a method called within an except suite; defaults. -/
namespace VL
open PySem PySem.Spec PyProof.Rows L2 VL
def vTryE (tab : XTab) (tb ts te : VTS) : VTS := fun N ε => tb { nx := fun ε1 => te N ε1, rt := N.rt, bk := N.bk, ct := N.ct, rx := fun cls row ε' => ∃ s c, cls = .type s ∧ tab s = some c ∧
  ((c = true ∧ isFz row = true ∧ ts { nx := N.nx, rt := N.rt, bk := N.bk, ct := N.ct, rx := fun _ _ _ => False } ε') ∨ (c = false ∧ N.rx cls row ε')) } ε
section
variable {X : Cv} {x n : Str} {c : Value} {tab : XTab} {body suite els : List Stmt} {b₀ : Stmt} {np pos pos' : Pos} {tb te : VTS}
theorem Caught.hot {s : String} {a dd : Addr} {oe : Obj} {pn : List (Addr × Obj)} (C : Caught X.K s dd oe) : L2H.HotC (suX X a oe pn).toCx := by
  obtain ⟨vs, hv⟩ := C.f
  exact ⟨(a, oe), ⟨rfl, vs, hv, C.z.2.2 vs hv⟩, List.mem_cons_self⟩
theorem vs_tryE {ts : VTS} (he : VSs X els te) (hs : X.stack = X.env :: X.outer) (hf : X.env.frame = some X.env.locals) (hc : Names X.toCx x c)
    (ht : ∀ s d, tab s = some d → PySem.W.exmOne X.K (clsV X.K (.type s)) c = some d)
    (hb : ∀ pn xe, PassesOwn (model X.prog X.w) X.A X.env xe → VSs (trX X pn xe) body tb)
    (hsu : ∀ a oe pn, L2H.HotC (suX X a oe pn).toCx → VSs (suX X a oe pn) (b₀ :: suite) ts) :
    VS X (.Try body [.ExceptHandler (some (.Name x np)) none (b₀ :: suite) pos'] els [] pos) (vTryE tab tb ts te) := by
  obtain ⟨u, u1, u2⟩ := try_body hb
  obtain ⟨v, v1, v2⟩ := try_suite (tab := tab) (ts := fun _ _ _ => ts) fun a _ _ oe pn _ C => hsu a oe pn C.hot
  obtain ⟨e', e1, e2⟩ := he.ex
  refine ⟨fun W => fun D σ H => u (wOnly X.K c v W D) { D with nx := e' W D } σ H, fun W tk => ps_try_elseN (e1 W tk) hs hf hc tk (fun W pn xe tk hp => u1 W pn xe tk hp) v1, fun b σ H ε T Tv W N E I q l x => ?_⟩
  refine u2 b σ H ε T Tv _ _ { E with nx := e' W E } I q ⟨fun σ1 H1 ε1 J z => e2 b σ1 H1 ε1 T Tv W N E J z l x, l.rt, l.bk, l.ct⟩ ?_
  intro cls dd σ1 H1 ε1 row w J e fr z
  obtain ⟨s, d, rfl, et, z⟩ := z
  refine ⟨d, ht s d et, fun hd a na => ?_, fun hd => ?_⟩
  · rcases z with ⟨_, fz, z⟩ | ⟨e2, _⟩
    · exact v2 b _ _ _ T Tv _ _ a dd s (by rw [et]; rfl) (J.drop I.lenT) z ⟨l.nx, l.rt, l.bk, l.ct⟩ rfl
    · rw [hd] at e2; cases e2
  · rcases z with ⟨e2, _⟩ | ⟨_, z⟩
    · rw [hd] at e2; cases e2
    · exact x (.type s) dd σ1 H1 ε1 row w J e fr z
end
/-! ### hot defs -/
structure Mh (P : Program) (w : World) (K : PySem.W.Frag) (mg : Str → Option Value) (base : Heap) (C : Nat) (m : Str) (k n : Nat) (vsp : VSp) : Prop where
  ex : ∃ f fd ps, Meth K (cA K C) m f ∧ Binds K fd ps [] ∧ L2H.FnH P w K mg base (VL.CX P w) k f fd ps (Lift K n vsp)
section
variable {P : Program} {w : World} {K : PySem.W.Frag} {mg : Str → Option Value} {base : Heap} {x qual : Str} {params : Arguments} {body : List Stmt} {scope : Scope} {dvs : List V} {kws : List (Str × V)} {f : Addr} {fd : FuncData}
abbrev bodyH (P : Program) (w : World) (K : PySem.W.Frag) (mg : Str → Option Value) (base : Heap) (N : List Str) (κ : List Bool) (qual : Str) (scope : Scope) (f : Addr) (cdv : Value) (A : Around) (outer : List Env) (s : Shared) (H : Hp) (E : XK) (p : Addr × Obj) : Cv :=
  { L2H.cxH (VL.CX P w) P w K mg base N qual scope f cdv A outer s H E p with κ := κ }
theorem fn_okH {N ps : List Str} {κ : List Bool} {k n : Nat} {vsp : VSp} {t : VTS} (F : FunD K x qual params body scope dvs kws f fd) (S : FnScope N ps scope) (hn : ps.length = n) (hN : n ≤ N.length)
    (hbody : ∀ (cdv : Value) (A : Around) (outer : List Env) (s : Shared) (H : Hp) (E : XK) (p : Addr × Obj), L2H.RoomH k (A.deeper (envOfC qual scope s.heap.objs.size f cdv)) → VSs (bodyH P w K mg base N κ qual scope f cdv A outer s H E p) body t)
    (hm : Mono vsp)
    (hsp : ∀ ds Q Ex, ds.length = n → vsp ds Q Ex → t { nx := fun ε => n ≤ ε.length ∧ Q .non (finalL κ ds ε), rt := fun r ε => n ≤ ε.length ∧ Q r (finalL κ ds ε), rx := fun cls row ε => n ≤ ε.length ∧ Ex cls row (finalL κ ds ε) } (startE N.length ds)) :
    L2H.FnH P w K mg base (VL.CX P w) (k + 1) f fd ps (Lift K n vsp) := by
  obtain ⟨oc, od, dV, kV, doc, pm, an, cdv, ct, osl, rfl, lk, hcd, _, _⟩ := F.ex
  refine L2H.fn_ofH lk hcd S (fun vs H Q E h => by rw [h.len, hn]) fun A outer s H vs Q E p _ hr h => ?_
  obtain ⟨G, F0, ds, J, l, q⟩ := h
  obtain ⟨t', h1, h2⟩ := (hbody cdv A outer s H E p hr).ex
  refine ⟨t' (fun cls d _ H => E cls d H), h1 _ (takes_of rfl rfl rfl rfl), ?_⟩
  have hv : vs.length = n := by rw [← J.lenT, l]
  have I0 : SI K { callB H G F0 with kv := keptV κ vs } (L2.start N vs) H (startE N.length ds) [] [] := by
    have hs : RpS K G H (startE N.length ds) (L2.start N vs) F0 := by
      unfold startE L2.start
      rw [J.lenT]
      exact RpS.start _ J.temps
    refine ⟨G, F0, [], Sub.refl, J.sub, hs, ⟨rfl, rfl⟩, by simpa using J.nd, fun a z => J.fr a (by simpa using z), fun a z => J.own a (by simpa using z), J.gn, J.keep, fun j v e => ?_⟩
    obtain ⟨_, e2⟩ := keptV_get e
    unfold L2.start
    have hj := (List.getElem?_eq_some_iff.mp e2).1
    rw [List.getElem?_append_left (by simpa using hj), List.getElem?_map, e2]
    rfl
  refine h2 ⟨_, fun i u e => (keptV_get e).1⟩ _ H _ [] [] _ _ _ I0 (hsp ds _ _ l q) ⟨fun σ H1 ε J1 z => ?_, fun σ H1 ε d v J1 z => ?_, fun _ _ _ _ z => z.elim, fun _ _ _ _ z => z.elim⟩ fun cls dd σ H1 ε row v J1 e n z => ?_
  · exact z.2 _ H1 (SI.leave J (J1.push (d := .non) (v := .non) fun _ => ⟨rfl, rfl⟩) (by rw [l]; exact z.1))
  · exact z.2 v H1 (SI.leave J J1 (by rw [l]; exact z.1))
  · exact z.2 dd v H1 (SI.leave J J1 (by rw [l]; exact z.1)) e n
end
section
variable {X : Cv}
theorem ve_methH {i C k n : Nat} {x m : Str} {mc : Cs} {p apos pos : Pos} {e : Expr} {es : List Expr} {rs : List (Option Nat)} {t : VTA} {vsp : VSp} (F : Mh X.prog X.w X.K X.mg X.base C m k n vsp) (mo : Mono vsp) (cl : Cls X.K (cA X.K C)) (hm : m = toS mc) (hr : L2H.RoomH k X.A) (hc : L2H.HotC X.toCx) (hN : X.N[i]? = some x) (hv : Vis X.env.scope x)
    (hn : (e :: es).length + 1 = n) (ha : VA X (e :: es) rs t) (hrs : rs.length = (e :: es).length := by rfl) (hd : (x == ("__debug__" : Str)) = false := by decide) (hcd : (x == ("__classdict__" : Str)) = false := by decide)
    (h1 : starEach (e :: es) X.env = (false, eval e X.env) :: starEach es X.env := by rfl) (h2 : (backTo pos (starEach es X.env)).any (·.1) = false := by rfl) {pl : Sem Bool}
    (h3 : eval (.Call (.Attribute (.Name x p) m apos) (e :: es) [] pos) X.env = (do
      let ov ← eval (.Name x p) X.env
      standAt apos.atName
      let (f, first) ← holding [ov] (getMethod ov m pl)
      callWith pos f first (backTo pos (starEach (e :: es) X.env)) (backToKw pos (keywordEach [] X.env))) := by rfl) :
    VE X (.Call (.Attribute (.Name x p) m apos) (e :: es) [] pos) (vMeth i C mc vsp rs t) := by
  subst hm
  obtain ⟨f, fd, ps, hm, hb, F⟩ := F.ex
  obtain ⟨u', k1, k2⟩ := ha.ex
  refine ⟨fun W => L2H.tMethH (cA X.K C) (toS mc) (Lift X.K n vsp) (WE W) (tVar i) (u' W), fun W tk => L2H.pe_methH (pe_var hN hv hd hcd) cl hm F hr hc hb (fun σ => passAt tk σ) (k1 W tk) h1 h2 h3, fun b σ H ε T Tv W N Q Q' I q kk xl => ?_⟩
  obtain ⟨⟨fs, ds0, e0, nf⟩, q⟩ := q
  obtain ⟨a, dx, vs0, hs, h0⟩ := I.insAt e0
  refine ⟨_, hs, a, dx, _, rfl, h0, fzip_none nf, ?_⟩
  refine k2 b σ H ε T Tv W N _ _ I q (fun ds vs ε2 H2 J l hh q2 => ?_) xl
  obtain ⟨d, e, q2⟩ := q2
  obtain ⟨v', hs', J2⟩ := J.mov e
  rw [hs] at hs'
  cases hs'
  have J3 := SI.swap (A := ds) (B := [d]) (C := []) (Av := vs) (Bv := [.ref a]) (Cv := []) (by simpa only [List.append_assoc, List.append_nil] using J2) I.lenT l rfl
  have hl : (d :: ds).length = ((V.ref a) :: vs).length := by simp [l]
  exact call_run (ds := d :: ds) (vs := .ref a :: vs) (rs := some i :: rs) I.lenT hl (by rw [← hn, ← hrs, hh.len, ← l]; rfl) (by simpa using J3) ⟨hs, hh⟩ q2 (mo (d :: ds)) kk xl
end
/-! ### defaults -/
/-- a def whose last parameter has a number as default -/
structure Fd (P : Program) (w : World) (K : PySem.W.Frag) (mg : Str → Option Value) (base : Heap) (x : Str) (z : Int) (k n : Nat) (vsp : VSp) : Prop where
  ex : ∃ f fd ps, mg x = some (.ref f) ∧ PySem.W.keepIn K (.ref f) = true ∧ Binds K fd ps [] ∧ (∃ ds, Vals [.int z] ds ∧ Binds K fd ps ds) ∧ FnOk P w K mg base (VL.CX P w) k f fd ps (Lift K n vsp)
theorem Fd.fv {P w K mg base x z k n vsp} (F : Fd P w K mg base x z k n vsp) : Fv P w K mg base x k n vsp := let ⟨f, fd, ps, a, b, c, _, d⟩ := F.ex; ⟨f, fd, ps, a, b, c, d⟩
section
variable {X : Cv}
def vCallD (z : Int) (vsp : VSp) (rs : List (Option Nat)) (t : VTA) : VTE := fun N ε Q => t N ε fun ds ε1 => vsp (ds ++ [.int z]) (fun r ds' => ds'.length = ds.length + 1 ∧ Q r (restore (rs ++ [none]) ds' ε1)) (fun cls row ds' => ds'.length = ds.length + 1 ∧ N cls row (restore (rs ++ [none]) ds' ε1))
theorem held_none {σ : L2.St} {v : V} : ∀ {rs : List (Option Nat)} {vs : List V}, Held σ rs vs → Held σ (rs ++ [none]) (vs ++ [v])
  | [], [], _ => trivial
  | some i :: rs, u :: vs, h => ⟨h.1, held_none h.2⟩
  | none :: rs, u :: vs, h => held_none (rs := rs) (vs := vs) h
theorem ve_callD {x : Str} {z : Int} {p pos : Pos} {e : Expr} {es : List Expr} {rs : List (Option Nat)} {t : VTA} {k n : Nat} {vsp : VSp} (F : Fd X.prog X.w X.K X.mg X.base x z k n vsp) (m : Mono vsp) (hr : Room k X.A) (hg : Gl X.toCx x) (hn : (e :: es).length + 1 = n) (ha : VA X (e :: es) rs t)
    (hrs : rs.length = (e :: es).length := by rfl) (hdb : (x == ("__debug__" : Str)) = false := by decide) (he : starEach (e :: es) X.env = (false, eval e X.env) :: starEach es X.env := by rfl) (hpl : (backTo pos (starEach es X.env)).any (·.1) = false := by rfl) :
    VE X (.Call (.Name x p) (e :: es) [] pos) (vCallD z vsp rs t) := by
  obtain ⟨f, fd, ps, hm, hk, _, ⟨dv, hv, hb⟩, F⟩ := F.ex
  obtain ⟨t', a1, a2⟩ := ha.ex
  refine ⟨fun W => tCallSD (Lift X.K n vsp) [.int z] (WE W) (t' W), fun W tk => pe_callSD F hr hg hm hk hb hv (fun σ => passAt tk σ) (a1 W tk) hdb he hpl, fun b σ H ε T Tv W N Q Q' I q kk x => ?_⟩
  refine a2 b σ H ε T Tv W N _ _ I q (fun ds vs ε1 H1 J l hd z1 => ?_) x
  have hT : (T ++ ds).length = (Tv ++ vs).length := by simp [I.lenT, l]
  have J2 : SI X.K b.1 σ H1 ε1 (T ++ (ds ++ [.int z])) (Tv ++ (vs ++ [.int z])) := by
    have := J.push (d := .int z) (v := .int z) fun _ => ⟨rfl, rfl⟩
    simpa only [List.append_assoc] using this
  have e1 : (ds ++ [D.int z]).length = ds.length + 1 := by simp
  have hn2 : (ds ++ [D.int z]).length = n := by
    rw [e1, ← hn, ← hrs, hd.len, ← l]
  refine call_run (ds := ds ++ [.int z]) (vs := vs ++ [.int z]) (rs := rs ++ [none]) I.lenT (by simp [l]) hn2 J2 (held_none hd) ?_ (m _) kk x
  rw [e1]
  exact z1
end
end VL
/-! VL53: methods, makers, defs with a default, out of the head. -/
namespace VL
open PySem PySem.Spec PyProof.Rows L2 VL
/-- what is called to make an instance -/
structure Nv (P : Program) (w : World) (K : PySem.W.Frag) (mg : Str → Option Value) (base : Heap) (C k n : Nat) (vsp : VSp) : Prop where
  ex : ∃ f fd ps, L2.Mk K (cA K C) f ∧ Binds K fd ps [] ∧ FnOk P w K mg base (VL.CX P w) k f fd ps (Lift K n vsp)
theorem ve_newN {X : Cv} {C k n : Nat} {x : Str} {p pos : Pos} {e : Expr} {es : List Expr} {rs : List (Option Nat)} {t : VTA} {vsp : VSp} (F : Nv X.prog X.w X.K X.mg X.base C k n vsp) (mo : Mono vsp)
    (hr : Room (k + 1) X.A) (hg : Gl X.toCx x) (hm : X.mg x = some (.ref (cA X.K C))) (hn : (e :: es).length + 1 = n) (ha : VA X (e :: es) rs t) (hrs : rs.length = (e :: es).length := by rfl)
    (hdb : (x == ("__debug__" : Str)) = false := by decide) (h1 : starEach (e :: es) X.env = (false, eval e X.env) :: starEach es X.env := by rfl) (h2 : (backTo pos (starEach es X.env)).any (·.1) = false := by rfl) :
    VE X (.Call (.Name x p) (e :: es) [] pos) (vNew C vsp rs t) := by
  obtain ⟨f, fd, ps, M, hb, F⟩ := F.ex
  exact ve_new M hb F mo hr hg hm hn ha hrs hdb h1 h2
theorem roomS {X : Cv} {a : Addr} {oe : Obj} {pn : List (Addr × Obj)} {j k : Nat} (hr : Room k X.A) (h : j ≤ k) : L2H.RoomH j (suX X a oe pn).A :=
  L2H.RoomH.mono (k := k) ⟨hr.dp, hr.un⟩ h
section
variable {P : Program} {w : World} {K : PySem.W.Frag} {mg : Str → Option Value} {base : Heap} {st : Stmt} {N ps : List Str} {κ : List Bool} {k n : Nat} {vsp : VSp} {t : VTS} {f : Addr} {x qual : Str}
theorem Mv.make {C : Nat} (hF : ∃ fd, FunD K x qual (defArgs st) (defBody st) (defScope st) [] [] f fd) (hm : Meth K (cA K C) x f) (S : FnScope N ps (defScope st))
    (hb : ∀ {fd}, FunD K x qual (defArgs st) (defBody st) (defScope st) [] [] f fd → Binds K fd ps []) (hn : ps.length = n) (hN : n ≤ N.length)
    (hbody : ∀ (f : Addr) (cdv : Value) (A : Around) (outer : List Env) (s : Shared) (H : Hp) (E : XK), Room k (A.deeper (envOfC qual (defScope st) s.heap.objs.size f cdv)) → VSs (bodyX P w K mg base N κ qual (defScope st) f cdv A outer s H E) (defBody st) t)
    (mo : Mono vsp) (rd : Rd n κ N.length vsp t) : Mv P w K mg base C x (k + 1) n vsp := by
  obtain ⟨fd, F⟩ := hF
  exact ⟨f, fd, ps, hm, hb F, fn_ok F S hn hN (hbody f) mo rd⟩
theorem Nv.make {C : Nat} (hF : ∃ fd, FunD K x qual (defArgs st) (defBody st) (defScope st) [] [] f fd) (hm : L2.Mk K (cA K C) f) (S : FnScope N ps (defScope st))
    (hb : ∀ {fd}, FunD K x qual (defArgs st) (defBody st) (defScope st) [] [] f fd → Binds K fd ps []) (hn : ps.length = n) (hN : n ≤ N.length)
    (hbody : ∀ (f : Addr) (cdv : Value) (A : Around) (outer : List Env) (s : Shared) (H : Hp) (E : XK), Room k (A.deeper (envOfC qual (defScope st) s.heap.objs.size f cdv)) → VSs (bodyX P w K mg base N κ qual (defScope st) f cdv A outer s H E) (defBody st) t)
    (mo : Mono vsp) (rd : Rd n κ N.length vsp t) : Nv P w K mg base C (k + 1) n vsp := by
  obtain ⟨fd, F⟩ := hF
  exact ⟨f, fd, ps, hm, hb F, fn_ok F S hn hN (hbody f) mo rd⟩
theorem Mh.make {C : Nat} (hF : ∃ fd, FunD K x qual (defArgs st) (defBody st) (defScope st) [] [] f fd) (hm : Meth K (cA K C) x f) (S : FnScope N ps (defScope st))
    (hb : ∀ {fd}, FunD K x qual (defArgs st) (defBody st) (defScope st) [] [] f fd → Binds K fd ps []) (hn : ps.length = n) (hN : n ≤ N.length)
    (hbody : ∀ (f : Addr) (cdv : Value) (A : Around) (outer : List Env) (s : Shared) (H : Hp) (E : XK) (p : Addr × Obj), L2H.RoomH k (A.deeper (envOfC qual (defScope st) s.heap.objs.size f cdv)) → VSs (bodyH P w K mg base N κ qual (defScope st) f cdv A outer s H E p) (defBody st) t)
    (mo : Mono vsp) (rd : Rd n κ N.length vsp t) : Mh P w K mg base C x (k + 1) n vsp := by
  obtain ⟨fd, F⟩ := hF
  exact ⟨f, fd, ps, hm, hb F, fn_okH F S hn hN (hbody f) mo rd⟩
theorem Fd.make {z : Int} (hF : ∃ f fd, mg x = some (.ref f) ∧ FunD K x x (defArgs st) (defBody st) (defScope st) [.int z] [] f fd) (S : FnScope N ps (defScope st))
    (hb : ∀ {f fd}, FunD K x x (defArgs st) (defBody st) (defScope st) [.int z] [] f fd → (∃ ds, Vals [] ds ∧ Binds K fd ps ds) ∧ ∃ ds, Vals [.int z] ds ∧ Binds K fd ps ds) (hn : ps.length = n) (hN : n ≤ N.length)
    (hbody : ∀ (f : Addr) (cdv : Value) (A : Around) (outer : List Env) (s : Shared) (H : Hp) (E : XK), Room k (A.deeper (envOfC x (defScope st) s.heap.objs.size f cdv)) → VSs (bodyX P w K mg base N κ x (defScope st) f cdv A outer s H E) (defBody st) t)
    (mo : Mono vsp) (rd : Rd n κ N.length vsp t) : Fd P w K mg base x z (k + 1) n vsp := by
  obtain ⟨f, fd, h1, F⟩ := hF
  obtain ⟨⟨d0, v0, b0⟩, b1⟩ := hb F
  cases v0
  exact ⟨f, fd, ps, h1, F.kp, b0, b1, fn_ok F S hn hN (hbody f) mo rd⟩
end
end VL
/-! VL54: runs from row to row, as plain data. -/
namespace VL
open PySem PySem.Spec PyProof.Rows L2 VL
/-- a memory: names and what they are worth -/
abbrev Mem := List (Cs × Int)
def mmD (m : Bool) (M : Mem) : D := .dK m (M.map fun p => .inr p.1) (M.map fun p => .int p.2)
def lookM (M : Mem) (s : Cs) : Int := (M.lookup s).getD 0
def putM : Mem → Cs → Int → Mem
  | [], s, v => [(s, v)]
  | (t, w) :: M, s, v => if t = s then (t, v) :: M else (t, w) :: putM M s v
def worthM (M : Mem) : Opd → Int
  | .inl i => i
  | .inr s => lookM M s
theorem mm_fzL (M : Mem) : isFzL (M.map fun p : Cs × Int => D.int p.2) = true := by rw [isFzL_all]; simp [isFz]
theorem mm_fz (M : Mem) : isFz (mmD false M) = true := mm_fzL M
theorem mm_frz (m : Bool) (M : Mem) : frz (mmD m M) = mmD false M := by
  show D.dK false _ (frzL (M.map fun p : Cs × Int => D.int p.2)) = _
  rw [frzL_id (mm_fzL M)]
  rfl
theorem mm_look {M : Mem} {s : Cs} : (match kIx (M.map fun p : Cs × Int => (Sum.inr p.1 : Kc)) (.inr s) with | some j => (M.map fun p : Cs × Int => D.int p.2)[j]? | none => some (.int 0)) = some (.int (lookM M s)) := by
  induction M with
  | nil => rfl
  | cons p M ih =>
    simp only [List.map_cons, kIx]
    by_cases h : p.1 = s
    · subst h
      simp [lookM, List.lookup]
    · have h2 : ¬ (Sum.inr p.1 : Kc) = .inr s := fun z => h (Sum.inr.inj z)
      rw [if_neg h2]
      have h3 : lookM (p :: M) s = lookM M s := by
        unfold lookM
        have : (s == p.1) = false := by rw [beq_eq_false_iff_ne]; exact fun z => h z.symm
        rw [List.lookup, this]
      rw [h3, ← ih]
      cases kIx (M.map fun p : Cs × Int => (Sum.inr p.1 : Kc)) (.inr s) <;> simp
theorem dget_mm {m : Bool} {M : Mem} {s : Cs} : dget2D (mmD m M) (.str s) (.int 0) = some (.int (lookM M s)) := mm_look
theorem vdget_mm {m : Bool} {M : Mem} {s : Cs} {P : D → Prop} : (∃ d, dget2D (mmD m M) (.str s) (.int 0) = some d ∧ isFz d = true ∧ P d) ↔ P (.int (lookM M s)) := by
  rw [dget_mm]
  exact ⟨fun ⟨d, e, _, p⟩ => by cases e; exact p, fun p => ⟨_, rfl, rfl, p⟩⟩
theorem isDct_mm {m : Bool} {M : Mem} : isDct (mmD m M) = true := rfl
theorem put_kIx {M : Mem} {s : Cs} {v : Int} : (match kIx (M.map fun p : Cs × Int => (Sum.inr p.1 : Kc)) (.inr s) with
    | some j => D.dK true (M.map fun p => .inr p.1) ((M.map fun p : Cs × Int => D.int p.2).set j (.int v))
    | none => D.dK true ((M.map fun p => .inr p.1) ++ [.inr s]) ((M.map fun p : Cs × Int => D.int p.2) ++ [.int v])) = mmD true (putM M s v) := by
  induction M with
  | nil => rfl
  | cons p M ih =>
    obtain ⟨t, w⟩ := p
    simp only [List.map_cons, kIx]
    by_cases h : t = s
    · subst h
      simp [putM, mmD]
    · have h2 : ¬ (Sum.inr t : Kc) = .inr s := fun z => h (Sum.inr.inj z)
      rw [if_neg h2]
      unfold putM
      rw [if_neg h]
      cases e : kIx (M.map fun p : Cs × Int => (Sum.inr p.1 : Kc)) (.inr s) with
      | none =>
        rw [e] at ih
        simp only [mmD, D.dK.injEq, true_and] at ih
        simp only [Option.map_none, mmD, List.map_cons, List.cons_append, D.dK.injEq, true_and, List.cons.injEq]
        exact ih
      | some j =>
        rw [e] at ih
        simp only [mmD, D.dK.injEq, true_and] at ih
        simp only [Option.map_some, mmD, List.map_cons, List.set_cons_succ, D.dK.injEq, true_and, List.cons.injEq]
        exact ih
theorem put_mm {M : Mem} {s : Cs} {v : Int} (h : M.length < 1000000) : putD (mmD true M) (.str s) (.int v) = some (mmD true (putM M s v)) := by
  show (if (M.map fun p : Cs × Int => D.int p.2).length < 1000000 then _ else none) = _
  rw [if_pos (by simpa using h)]
  show some _ = some _
  first | (rw [← put_kIx]; done) | (rw [← put_kIx]; rfl)
theorem putM_len (M : Mem) (s : Cs) (v : Int) : (putM M s v).length ≤ M.length + 1 := by
  induction M with
  | nil => simp [putM]
  | cons p M ih =>
    unfold putM
    split
    · simp
    · simp only [List.length_cons]; omega
theorem putM_mem {M : Mem} {s : Cs} {v : Int} : ∀ p ∈ putM M s v, p.2 = v ∨ p ∈ M := by
  induction M with
  | nil => intro p hp; simp [putM] at hp; exact .inl (by rw [hp])
  | cons q M ih =>
    intro p hp
    unfold putM at hp
    split at hp
    · rcases List.mem_cons.mp hp with h | h
      · exact .inl (by rw [h])
      · exact .inr (List.mem_cons_of_mem _ h)
    · rcases List.mem_cons.mp hp with h | h
      · exact .inr (by rw [h]; exact List.mem_cons_self)
      · rcases ih p h with h | h
        · exact .inl h
        · exact .inr (List.mem_cons_of_mem _ h)
theorem lookM_put {M : Mem} {s t : Cs} {v : Int} : lookM (putM M s v) t = if t = s then v else lookM M t := by
  induction M with
  | nil =>
    unfold putM lookM
    by_cases h : t = s
    · subst h; simp [List.lookup]
    · have e : (t == s) = false := by rw [beq_eq_false_iff_ne]; exact h
      simp [List.lookup, e, h]
  | cons p M ih =>
    obtain ⟨u, w⟩ := p
    unfold putM
    by_cases h : u = s
    · subst h
      rw [if_pos rfl]
      by_cases h2 : t = u
      · subst h2; simp [lookM, List.lookup]
      · have e : (t == u) = false := by rw [beq_eq_false_iff_ne]; exact h2
        simp [lookM, List.lookup, e, h2]
    · rw [if_neg h]
      by_cases h2 : t = u
      · subst h2
        rw [if_neg h]
        simp [lookM, List.lookup]
      · have e : (t == u) = false := by rw [beq_eq_false_iff_ne]; exact h2
        have e1 : ∀ (x : Int) (L : Mem), lookM ((u, x) :: L) t = lookM L t := fun x L => by simp [lookM, List.lookup, e]
        rw [e1, e1, ih]
/-! ### sums -/
/-- what a sign makes of two numbers; none: refused -/
def madeV (s : Cs) (i j : Int) : Option Int := if s = [43] then some (i + j) else if s = [45] then some (i - j) else if s = [38] then some (Builtin.bitAnd i j) else if s = [94] then some (Builtin.bitXor i j) else
  if j = 0 then none else if s = [47] then some (pdiv i j) else some (pmod i j)
def holdsV (s : Cs) (i j : Int) : Bool := if s = [60] then decide (i < j) else decide (i = j)
/-- small enough to divide by -/
abbrev Sm (i : Int) : Prop := i.natAbs < 2 ^ 250
theorem cdv_sm {i j : Int} (h : j ≠ 0) (h2 : Sm j) : CDv i j := ⟨h, by
  have h3 : j.natAbs ≠ 0 := by omega
  have := (Nat.log2_lt h3).mpr h2
  omega⟩
/-! ### deeds -/
inductive Dd where
  | sum (x : Cs) (i : Int) (s : Cs) (j r : Int)
  | test (i : Int) (s : Cs) (j : Int) (t : Bool)
def dedL : Dd → List D
  | .sum x i s j r => [.str cSum, .str x, .int i, .str s, .int j, .int r]
  | .test i s j t => [.str cTest, .int i, .str s, .int j, .bl t]
def dedD (d : Dd) : D := .tup (dedL d)
theorem ded_fz (d : Dd) : isFz (dedD d) = true := by cases d <;> rfl
theorem deds_fz (ds : List Dd) : isFzL (ds.map dedD) = true := by rw [isFzL_all]; simp [ded_fz]
theorem deds_frz (ds : List Dd) : frzL (ds.map dedD) = ds.map dedD := frzL_id (deds_fz ds)
structure Dds where
  mem : Mem
  most : Int
  done : List Dd
abbrev cMemF : Cs := [109, 101, 109, 111, 114, 121]
abbrev cMostF : Cs := [109, 111, 115, 116]
abbrev cDoneF : Cs := [100, 111, 110, 101]
def ddsD (m : Bool) (d : Dds) : D := .ins m 0 [cMemF, cMostF, cDoneF] [mmD m d.mem, .int d.most, .lst m (d.done.map dedD)]
theorem dds_frz (m : Bool) (d : Dds) : frz (ddsD m d) = ddsD false d := by
  show D.ins false 0 _ (frzL [mmD m d.mem, .int d.most, .lst m (d.done.map dedD)]) = _
  show D.ins false 0 _ [frz (mmD m d.mem), .int d.most, .lst false (frzL (d.done.map dedD))] = _
  rw [mm_frz, deds_frz]
  rfl
/-- where each row stands, by its number -/
def plcD (m : Bool) (rs : List Rw) : D := .dK m (natK (nums rs)) (natsD (List.range rs.length))
theorem plc_fz (rs : List Rw) : isFz (plcD false rs) = true := natsD_fz _
theorem ix_plc {m : Bool} {rs : List Rw} {t : Nat} (h : t ∈ nums rs) : ixD (plcD m rs) (.int (t : Int)) = some (.int ((nums rs).idxOf t : Nat)) := by
  show ((kIx (natK (nums rs)) (.inl (t : Int))).bind fun j => (natsD (List.range rs.length))[j]?) = _
  rw [kIx_nat, if_pos h]
  show (natsD (List.range rs.length))[(nums rs).idxOf t]? = _
  unfold natsD
  rw [List.getElem?_map, List.getElem?_range (by rw [← nums_len]; exact List.idxOf_lt_length_iff.mpr h)]
  rfl
theorem plc_frz (m : Bool) (rs : List Rw) : frz (plcD m rs) = plcD false rs := by
  show D.dK false _ (frzL (natsD _)) = _
  rw [natsD_frz]
  rfl
/-! ### runs -/
abbrev cOn : Cs := [111, 110]
abbrev cFault : Cs := [102, 97, 117, 108, 116]
abbrev Told := List Dd × Cs × Mem
def toldD (r : Told) : D := .tup [.lst true (r.1.map dedD), .str r.2.1, mmD true r.2.2]
structure RS where
  pos : Nat
  jumps : Nat
  mem : Mem
  done : List Dd
def stepR (rs : List Rw) (most : Int) (s : RS) : Option (Sum Told RS) := match rs[s.pos]? with
  | none => none
  | some (.fin _) => some (.inl (s.done, cEnd, s.mem))
  | some (.jump _ to) => if rs.length < s.jumps + 1 then some (.inl (s.done, cOn, s.mem)) else some (.inr ⟨(nums rs).idxOf to, s.jumps + 1, s.mem, s.done⟩)
  | some (.sum _ x a sg b) => if most ≤ s.done.length then some (.inl (s.done, cOn, s.mem)) else match madeV sg (worthM s.mem a) (worthM s.mem b) with
    | none => some (.inl (s.done, cFault, s.mem))
    | some v => some (.inr ⟨s.pos + 1, 0, putM s.mem x v, s.done ++ [.sum x (worthM s.mem a) sg (worthM s.mem b) v]⟩)
  | some (.test _ a sg b to) => if most ≤ s.done.length then some (.inl (s.done, cOn, s.mem)) else
      some (.inr ⟨if holdsV sg (worthM s.mem a) (worthM s.mem b) = true then (nums rs).idxOf to else s.pos + 1, 0, s.mem, s.done ++ [.test (worthM s.mem a) sg (worthM s.mem b) (holdsV sg (worthM s.mem a) (worthM s.mem b))]⟩)
/-- what is asked of a state -/
structure RSok (rs : List Rw) (s : RS) : Prop where
  lt : s.pos < rs.length
  mem : s.mem.length ≤ 100000
  done : s.done.length ≤ 100000
  sm : ∀ n x a sg b, rs[s.pos]? = some (.sum n x a sg b) → Sm (worthM s.mem b)
inductive RunsN (rs : List Rw) (most : Int) (res : Told) : Nat → RS → Prop
  | stop {s : RS} : RSok rs s → stepR rs most s = some (.inl res) → RunsN rs most res 0 s
  | go {s s' : RS} {n : Nat} : RSok rs s → stepR rs most s = some (.inr s') → RunsN rs most res n s' → RunsN rs most res (n + 1) s
theorem RunsN.ok {rs : List Rw} {most : Int} {res : Told} {n : Nat} {s : RS} : RunsN rs most res n s → RSok rs s
  | .stop h _ => h
  | .go h _ _ => h
section
variable {rs : List Rw} {most : Int} {pos jumps : Nat} {mem : Mem} {done : List Dd}
theorem stepR_fin {n : Nat} (h : rs[pos]? = some (.fin n)) : stepR rs most ⟨pos, jumps, mem, done⟩ = some (.inl (done, cEnd, mem)) := by unfold stepR; split <;> simp_all
theorem stepR_jump {n to : Nat} (h : rs[pos]? = some (.jump n to)) : stepR rs most ⟨pos, jumps, mem, done⟩ = if rs.length < jumps + 1 then some (.inl (done, cOn, mem)) else some (.inr ⟨(nums rs).idxOf to, jumps + 1, mem, done⟩) := by unfold stepR; split <;> simp_all
theorem stepR_sum {n : Nat} {x : Cs} {a b : Opd} {sg : Cs} (h : rs[pos]? = some (.sum n x a sg b)) : stepR rs most ⟨pos, jumps, mem, done⟩ = if most ≤ done.length then some (.inl (done, cOn, mem)) else match madeV sg (worthM mem a) (worthM mem b) with
    | none => some (.inl (done, cFault, mem))
    | some v => some (.inr ⟨pos + 1, 0, putM mem x v, done ++ [.sum x (worthM mem a) sg (worthM mem b) v]⟩) := by unfold stepR; split <;> simp_all
theorem stepR_test {n to : Nat} {a b : Opd} {sg : Cs} (h : rs[pos]? = some (.test n a sg b to)) : stepR rs most ⟨pos, jumps, mem, done⟩ = if most ≤ done.length then some (.inl (done, cOn, mem)) else
      some (.inr ⟨if holdsV sg (worthM mem a) (worthM mem b) = true then (nums rs).idxOf to else pos + 1, 0, mem, done ++ [.test (worthM mem a) sg (worthM mem b) (holdsV sg (worthM mem a) (worthM mem b))]⟩) := by unfold stepR; split <;> simp_all
end
theorem step_l {rs : List Rw} {most : Int} {res x : Told} {m : Nat} (h : (some (.inl x) : Option (Sum Told RS)) = some (.inl res) ∨ ∃ s' n, m = n + 1 ∧ (some (.inl x) : Option (Sum Told RS)) = some (.inr s') ∧ RunsN rs most res n s') : x = res := by
  rcases h with h | ⟨_, _, _, h, _⟩
  · exact Sum.inl.inj (Option.some.inj h)
  · cases Option.some.inj h
theorem step_r {rs : List Rw} {most : Int} {res : Told} {x : RS} {m : Nat} (h : (some (.inr x) : Option (Sum Told RS)) = some (.inl res) ∨ ∃ s' n, m = n + 1 ∧ (some (.inr x) : Option (Sum Told RS)) = some (.inr s') ∧ RunsN rs most res n s') : ∃ n, m = n + 1 ∧ RunsN rs most res n x := by
  rcases h with h | ⟨s', n, e, h, r⟩
  · cases Option.some.inj h
  · cases Sum.inr.inj (Option.some.inj h)
    exact ⟨n, e, r⟩
theorem RunsN.inv {rs : List Rw} {most : Int} {res : Told} {m : Nat} {s : RS} (h : RunsN rs most res m s) : stepR rs most s = some (.inl res) ∨ ∃ s' n, m = n + 1 ∧ stepR rs most s = some (.inr s') ∧ RunsN rs most res n s' := by
  cases h with
  | stop _ e => exact .inl e
  | go _ e r => exact .inr ⟨_, _, rfl, e, r⟩
end VL
/-! VL55: for over the keys of a dict that stands still: it is locked meanwhile. -/
namespace VL
open PySem PySem.Spec PyProof.Rows L2 VL
/-- the same, but for dicts that are locked or unlocked -/
def Lk (G G' : Hp) : Prop := ∀ a, G' a = G a ∨ ∃ o kvs, (G a = some (.dK kvs) ∧ G' a = some (.frz o (.dK kvs))) ∨ (G a = some (.frz o (.dK kvs)) ∧ G' a = some (.dK kvs))
section
variable {K : PySem.W.Frag} {G G' H H' : Hp}
theorem Lk.rdK (h : Lk G G') {a : Addr} {kvs : List (Key × V)} (r : L2.Rd G a (.dK kvs)) : L2.Rd G' a (.dK kvs) := by
  rcases h a with e | ⟨o, k2, ⟨e1, e2⟩ | ⟨e1, e2⟩⟩
  · unfold L2.Rd; rw [e]; exact r
  · rcases r with r | ⟨q, r⟩
    · rw [e1] at r; cases r; exact .inr ⟨o, e2⟩
    · rw [e1] at r; cases r
  · rcases r with r | ⟨q, r⟩
    · rw [e1] at r; cases r
    · rw [e1] at r; cases r; exact .inl e2
theorem Lk.other (h : Lk G G') {a : Addr} {o : HO} (e : G a = some o) (n : ∀ kvs, o ≠ .dK kvs) (m : ∀ q kvs, o ≠ .frz q (.dK kvs)) : G' a = some o := by
  rcases h a with e2 | ⟨q, k2, ⟨e1, e2⟩ | ⟨e1, e2⟩⟩
  · rw [e2, e]
  · rw [e] at e1; cases e1; exact absurd rfl (n k2)
  · rw [e] at e1; cases e1; exact absurd rfl (m q k2)
theorem Lk.sqL (h : Lk G G') {a : Addr} {xs : List V} (r : SqL K G a xs) : SqL K G' a xs := by
  rcases r with (r | ⟨o, r⟩) | r
  · exact .inl (.inl (h.other r (fun _ z => nomatch z) fun _ _ z => nomatch z))
  · exact .inl (.inr ⟨o, h.other r (fun _ z => nomatch z) fun _ _ z => by cases z⟩)
  · exact .inr r
mutual
theorem Rp.lk (h : Lk G G') : ∀ {d : D} {v : V} {F : List Addr}, (∀ a ∈ F, H' a = H a) → Rp K G H d v F → Rp K G' H' d v F
  | .hole, _, _, _, r => r
  | .val _, _, _, _, r => r
  | .non, _, _, _, r => r
  | .bl _, _, _, _, r => r
  | .int _, _, _, _, r => r
  | .str _, _, _, _, r => r
  | .ty _, _, _, _, r => r
  | .pin u d, v, F, k, r => ⟨r.1, Rp.lk h k r.2⟩
  | .exn _ _ _ row, v, F, k, r => by
    obtain ⟨e, w, s, r⟩ := r
    exact ⟨e, w, h.other s (fun _ z => nomatch z) (fun _ _ z => nomatch z), Rp.lk h k r⟩
  | .tup ds, v, F, k, r => by
    obtain ⟨a, vs, e, s, r⟩ := r
    exact ⟨a, vs, e, h.other s (fun _ z => nomatch z) (fun _ _ z => nomatch z), RpL.lk h k r⟩
  | .lst false ds, v, F, k, r => by
    obtain ⟨a, vs, e, s, f, r⟩ := r
    exact ⟨a, vs, e, h.sqL s, f, RpL.lk h (fun _ z => nomatch z) r⟩
  | .lst true ds, v, F, k, r => by
    obtain ⟨a, vs, F', e, s, rfl, r⟩ := r
    exact ⟨a, vs, F', e, (k a List.mem_cons_self).trans s, rfl, RpL.lk h (fun b z => k b (List.mem_cons_of_mem _ z)) r⟩
  | .dK false ks ds, v, F, k, r => by
    obtain ⟨a, vs, e, s, f, l, n, r⟩ := r
    exact ⟨a, vs, e, h.rdK s, f, l, n, RpL.lk h (fun _ z => nomatch z) r⟩
  | .dK true ks ds, v, F, k, r => by
    obtain ⟨a, vs, F', e, s, rfl, l, n, r⟩ := r
    exact ⟨a, vs, F', e, (k a List.mem_cons_self).trans s, rfl, l, n, RpL.lk h (fun b z => k b (List.mem_cons_of_mem _ z)) r⟩
  | .dT false ks ds, v, F, k, r => by
    obtain ⟨a, vs, e, s, f, l, n, r⟩ := r
    exact ⟨a, vs, e, h.other s (fun _ z => nomatch z) (fun _ _ z => nomatch z), f, l, n, RpL.lk h (fun _ z => nomatch z) r⟩
  | .dT true ks ds, v, F, k, r => by
    obtain ⟨a, vs, F', e, s, rfl, l, n, r⟩ := r
    exact ⟨a, vs, F', e, (k a List.mem_cons_self).trans s, rfl, l, n, RpL.lk h (fun b z => k b (List.mem_cons_of_mem _ z)) r⟩
  | .ins false C fs ds, v, F, k, r => by
    obtain ⟨a, dx, vs, e, s, f, l, r⟩ := r
    exact ⟨a, dx, vs, e, h.other s (fun _ z => nomatch z) (fun _ _ z => nomatch z), f, l, RpL.lk h (fun _ z => nomatch z) r⟩
  | .ins true C fs ds, v, F, k, r => by
    obtain ⟨a, dx, vs, F', e, s, rfl, l, r⟩ := r
    exact ⟨a, dx, vs, F', e, (k a List.mem_cons_self).trans s, rfl, l, RpL.lk h (fun b z => k b (List.mem_cons_of_mem _ z)) r⟩
theorem RpL.lk (h : Lk G G') : ∀ {ds : List D} {vs : List V} {F : List Addr}, (∀ a ∈ F, H' a = H a) → RpL K G H ds vs F → RpL K G' H' ds vs F
  | [], _, _, _, r => r
  | d :: ds, vs, F, k, r => by
    obtain ⟨v, vs', F1, F2, rfl, rfl, r, rs⟩ := r
    exact ⟨v, vs', F1, F2, rfl, rfl, Rp.lk h (fun a z => k a (List.mem_append_left _ z)) r, RpL.lk h (fun a z => k a (List.mem_append_right _ z)) rs⟩
end
theorem RpO.lk (h : Lk G G') {od : Option D} {ov : Option V} {F : List Addr} (k : ∀ a ∈ F, H' a = H a) (r : RpO K G H od ov F) : RpO K G' H' od ov F := by
  cases od with
  | none => exact r
  | some d =>
    obtain ⟨v, e, r⟩ := r
    exact ⟨v, e, r.lk h k⟩
theorem RpS.lk (h : Lk G G') : ∀ {ε : Ep} {σ : L2.St} {F : List Addr}, (∀ a ∈ F, H' a = H a) → RpS K G H ε σ F → RpS K G' H' ε σ F
  | [], _, _, _, r => r
  | od :: ε, σ, F, k, r => by
    obtain ⟨ov, σ', F1, F2, rfl, rfl, r, rs⟩ := r
    exact ⟨ov, σ', F1, F2, rfl, rfl, r.lk h (fun a z => k a (List.mem_append_left _ z)), RpS.lk h (fun a z => k a (List.mem_append_right _ z)) rs⟩
end
section
variable {K : PySem.W.Frag} {b : Bs} {σ : L2.St} {H : Hp} {ε : Ep} {T : List D} {Tv : List V}
/-- a dict in a slot that stands still -/
theorem SI.dictAt (I : SI K b σ H ε T Tv) {i : Nat} {ks : List Kc} {xs : List D} (e : ε[i]? = some (some (.dK false ks xs))) :
    ∃ a vs, σ[i]? = some (some (.ref a)) ∧ ks.length = vs.length ∧ ((∃ G F Ft, SIx K b G F Ft σ H ε T Tv ∧ G a = some (.dK (kzip ks vs))) ∨ ∃ o, H a = some (.frz o (.dK (kzip ks vs)))) := by
  obtain ⟨G, F, Ft, J⟩ := I
  obtain ⟨ov, A, B, C', hs, rfl, r, _⟩ := J.slots.focus e
  obtain ⟨v, rfl, a, vs, rfl, s, _, l, _, rl⟩ := r
  refine ⟨a, vs, hs, l.trans rl.len, ?_⟩
  rcases s with s | ⟨o, s⟩
  · exact .inl ⟨G, _, Ft, J, s⟩
  · exact .inr ⟨o, J.sub _ _ s⟩
/-- the ground while a dict is locked -/
theorem SIx.lock {G : Hp} {F Ft : List Addr} (J : SIx K b G F Ft σ H ε T Tv) {a : Addr} {kvs : List (Key × V)} (e : G a = some (.dK kvs)) (o : Obj) :
    ∃ bL : Bs, bL.kv = b.kv ∧ bL.H0 = upd H a (.frz o (.dK kvs)) ∧ a ∉ bL.F0 ∧ SI K bL σ (upd H a (.frz o (.dK kvs))) ε T Tv ∧
      ∀ σ' H' ε' (T' : List D) (Tv' : List V), SI K bL σ' H' ε' T' Tv' → H' a = some (.frz o (.dK kvs)) ∧ SI K b σ' (upd H' a (.dK kvs)) ε' T' Tv' := by
  have na : a ∉ F ++ Ft := fun z => by rw [J.fr a z] at e; cases e
  have eH := J.sub _ _ e
  have lk : Lk G (upd G a (.frz o (.dK kvs))) := fun c => by
    by_cases h : c = a
    · subst h; exact .inr ⟨o, kvs, .inl ⟨e, upd_same⟩⟩
    · exact .inl (upd_ne h)
  have kp : ∀ c ∈ F ++ Ft, upd H a (.frz o (.dK kvs)) c = H c := fun c hc => upd_ne fun h => na (by rw [← h]; exact hc)
  refine ⟨⟨upd H a (.frz o (.dK kvs)), upd G a (.frz o (.dK kvs)), F ++ Ft, b.kv⟩, rfl, rfl, na, ⟨upd G a (.frz o (.dK kvs)), F, Ft, Sub.refl, fun c u h => ?_, J.slots.lk lk fun c z => kp c (List.mem_append_left _ z), J.temps.lk lk fun c z => kp c (List.mem_append_right _ z), J.nd, fun c z => ?_, fun c z => .inl z, fun c u h => .inl h, fun c u h _ => h, J.kept⟩, ?_⟩
  · by_cases hc : c = a
    · subst hc; rw [upd_same] at h ⊢; exact h
    · rw [upd_ne hc] at h ⊢; exact J.sub _ _ h
  · rw [upd_ne fun h => na (by rw [← h]; exact z)]; exact J.fr c z
  · rintro σ' H' ε' T' Tv' ⟨G', F', Ft', J'⟩
    have g' : G' a = some (.frz o (.dK kvs)) := J'.s0 _ _ upd_same
    have h' := J'.sub _ _ g'
    have na' : a ∉ F' ++ Ft' := fun z => by rw [J'.fr a z] at g'; cases g'
    have lk' : Lk G' (upd G' a (.dK kvs)) := fun c => by
      by_cases h : c = a
      · subst h; exact .inr ⟨o, kvs, .inr ⟨g', upd_same⟩⟩
      · exact .inl (upd_ne h)
    have kp' : ∀ c ∈ F' ++ Ft', upd H' a (.dK kvs) c = H' c := fun c hc => upd_ne fun h => na' (by rw [← h]; exact hc)
    refine ⟨h', upd G' a (.dK kvs), F', Ft', fun c u h => ?_, fun c u h => ?_, J'.slots.lk lk' fun c z => kp' c (List.mem_append_left _ z), J'.temps.lk lk' fun c z => kp' c (List.mem_append_right _ z), J'.nd, fun c z => ?_, fun c z => ?_, fun c u h => ?_, fun c u h n => ?_, J'.kept⟩
    · have h1 := J.s0 _ _ h
      by_cases hc : c = a
      · subst hc; rw [e] at h1; cases h1; exact upd_same
      · rw [upd_ne hc]
        exact J'.s0 _ _ (by show upd G a _ c = _; rw [upd_ne hc]; exact h1)
    · by_cases hc : c = a
      · subst hc; rw [upd_same] at h ⊢; exact h
      · rw [upd_ne hc] at h ⊢; exact J'.sub _ _ h
    · rw [upd_ne fun h => na' (by rw [← h]; exact z)]; exact J'.fr c z
    · rcases J'.own c z with q | q
      · exact J.own c q
      · by_cases hc : c = a
        · subst hc
          exact absurd z na'
        · refine J.h0 ?_
          have q : upd H a (.frz o (.dK kvs)) c = none := q
          rwa [upd_ne hc] at q
    · by_cases hc : c = a
      · subst hc
        rw [upd_same] at h
        cases h
        exact J.gn _ _ e
      · rw [upd_ne hc] at h
        rcases J'.gn c u h with q | q | q | q
        · have q : upd G a (.frz o (.dK kvs)) c = some u := q
          rw [upd_ne hc] at q
          exact J.gn _ _ q
        · exact .inr (inl3 (J.own c q))
        · have q : upd H a (.frz o (.dK kvs)) c = none := q
          rw [upd_ne hc] at q
          exact .inr (inl3 (J.h0 q))
        · exact .inr (.inr (.inr q))
    · have h1 := J.keep c u h n
      by_cases hc : c = a
      · subst hc; rw [eH] at h1; cases h1; exact upd_same
      · rw [upd_ne hc]
        refine J'.keep c u (by show upd H a _ c = _; rw [upd_ne hc]; exact h1) fun z => ?_
        rcases J.own c z with q | q
        · exact n q
        · rw [h] at q; cases q
/-- the ground while a dict that is locked already is walked -/
theorem SI.held (I : SI K b σ H ε T Tv) : ∃ bL : Bs, bL.kv = b.kv ∧ bL.H0 = H ∧ (∀ a o u, H a = some (.frz o u) → a ∉ bL.F0) ∧ SI K bL σ H ε T Tv ∧ ∀ σ' H' ε' (T' : List D) (Tv' : List V), SI K bL σ' H' ε' T' Tv' → SI K b σ' H' ε' T' Tv' := by
  obtain ⟨G, F, Ft, J⟩ := I
  refine ⟨⟨H, G, F ++ Ft, b.kv⟩, rfl, rfl, fun a o u h z => ?_, ⟨G, F, Ft, Sub.refl, J.sub, J.slots, J.temps, J.nd, J.fr, fun c z => .inl z, fun c u h => .inl h, fun c u h _ => h, J.kept⟩, ?_⟩
  · have : ∃ u, H a = some u ∧ Mut (some u) := by
      rcases List.mem_append.mp z with z | z
      · exact J.slots.there a z
      · exact J.temps.there a z
    obtain ⟨u2, e2, m⟩ := this
    rw [h] at e2
    cases e2
    exact m
  · rintro σ' H' ε' T' Tv' ⟨G', F', Ft', J'⟩
    refine ⟨G', F', Ft', J.s0.trans J'.s0, J'.sub, J'.slots, J'.temps, J'.nd, J'.fr, fun c z => ?_, fun c u h => ?_, fun c u h n => ?_, J'.kept⟩
    · rcases J'.own c z with q | q
      · exact J.own c q
      · exact J.h0 q
    · rcases J'.gn c u h with q | q | q | q
      · exact J.gn _ _ q
      · exact .inr (inl3 (J.own c q))
      · exact .inr (inl3 (J.h0 q))
      · exact .inr (.inr (.inr q))
    · refine J'.keep c u (J.keep c u h n) fun z => ?_
      rcases J.own c z with q | q
      · exact n q
      · rw [h] at q; cases q
end
/-! ### the loop -/
def keyKD : Kc → D
  | .inl i => .int i
  | .inr s => .str s
theorem keyKD_rp {K : PySem.W.Frag} {G H : Hp} (k : Kc) : Rp K G H (keyKD k) (kV (kc k)) [] := by cases k <;> exact ⟨rfl, rfl⟩
def vForKeys (i : Nat) (g : VTG) (body : VTS) : VTS := fun N ε => ∃ ks xs, ε[i]? = some (some (.dK false ks xs)) ∧ vForL g body (ks.map keyKD) { N with rx := fun _ _ _ => False } ε
section
variable {X : Cv}
theorem keys_run {g : VTG} {t : VTS} {g' : TG} {t' : TS} {i : Nat}
    (g2 : ∀ (b : Bx X) σ H ε T Tv d v (Q : Ep → Prop) (Q' : L2.St → Hp → Prop), SI X.K b.1 σ H ε (T ++ [d]) (Tv ++ [v]) → T.length = Tv.length → g d ε Q → (∀ ε' σ' H', SI X.K b.1 σ' H' ε' T Tv → Q ε' → Q' σ' H') → g' v σ H Q')
    (t2 : ∀ (b : Bx X) σ H ε T Tv N E, SI X.K b.1 σ H ε T Tv → t N ε → EL X.K b.1 T Tv N E → N.rx = (fun _ _ _ => False) → t' E σ H)
    (b : Bx X) {σ : L2.St} {H : Hp} {ε : Ep} {T : List D} {Tv : List V} {N : VEnds} {E : Ends} {a : Addr} {o : Obj} {ks : List Kc} {vs : List V} (I : SI X.K b.1 σ H ε T Tv) (hs : σ[i]? = some (some (.ref a))) (ha : H a = some (.frz o (.dK (kzip ks vs))))
    (h0 : b.1.H0 a = some (.frz o (.dK (kzip ks vs)))) (hf : a ∉ b.1.F0) (hl : ks.length = vs.length) (q : vForL g t (ks.map keyKD) N ε) (hx : N.rx = fun _ _ _ => False) (l : EL X.K b.1 T Tv N E) : tFor (iKeys (tVar i)) g' t' E σ H := by
  have kl : (kzip ks vs).length = ks.length := by unfold kzip; rw [List.length_zip, List.length_map]; omega
  refine ⟨.ref a, hs, a, o, rfl, .inl ⟨_, ha, ?_⟩⟩
  refine ⟨fun j m σ H => m = ks.length - j ∧ j ≤ ks.length ∧ ∃ ε, SI X.K b.1 σ H ε T Tv ∧ vForL g t ((ks.map keyKD).drop j) N ε, ⟨ks.length, rfl, Nat.zero_le _, ε, I, q⟩, ?_⟩
  rintro j m σ2 H2 ⟨rfl, hj, ε2, I2, z2⟩
  have ha2 : H2 a = some (.frz o (.dK (kzip ks vs))) := by
    obtain ⟨G, F, Ft, J⟩ := I2
    exact J.keep _ _ h0 hf
  by_cases hlt : j < ks.length
  · right
    have hlt2 : j < (ks.map keyKD).length := by simpa using hlt
    rw [List.drop_eq_getElem_cons hlt2] at z2
    refine ⟨⟨ha2, by omega⟩, fun σ' H' => ∃ ε, SI X.K b.1 σ' H' ε T Tv ∧ vForL g t ((ks.map keyKD).drop (j + 1)) N ε, fun σ' H' y => ⟨ks.length - (j + 1), by omega, rfl, hlt, y⟩, fun v H' y => ?_⟩
    obtain ⟨rfl, k, w, hk, rfl⟩ := y
    have ek : k = kc ks[j] := by
      unfold kzip at hk
      have := (List.getElem?_zip_eq_some.mp hk).1
      rw [List.getElem?_map, List.getElem?_eq_getElem hlt] at this
      exact (Option.some.inj this).symm
    subst ek
    have I3 := I2.push (d := keyKD ks[j]) (v := kV (kc ks[j])) fun G => keyKD_rp _
    have ed : (ks.map keyKD)[j] = keyKD ks[j] := by simp
    rw [ed] at z2
    refine g2 b σ2 H' ε2 T Tv _ _ _ _ I3 I2.lenT z2 fun ε4 σ4 H4 I4 z4 => ?_
    exact t2 b σ4 H4 ε4 T Tv _ _ I4 z4 ⟨fun σ5 H5 ε5 I5 z5 => ⟨ε5, I5, z5⟩, fun σ5 H5 ε5 d5 v5 I5 z5 => l.rt σ5 H5 ε5 d5 v5 I5 z5, fun σ5 H5 ε5 I5 z5 => l.nx σ5 H5 ε5 I5 z5, fun σ5 H5 ε5 I5 z5 => ⟨ε5, I5, z5⟩⟩ hx
  · left
    have e : j = ks.length := by omega
    subst e
    rw [List.drop_eq_nil_of_le (by simp)] at z2
    exact ⟨⟨ha2, by omega⟩, l.nx σ2 H2 ε2 I2 z2⟩
theorem ps_or {Y : Cx} {st : Stmt} {t u : TS} (h : PS Y st t) (k : PS Y st u) : PS Y st (fun D σ H => t D σ H ∨ u D σ H) := ⟨fun pins s σ H D I q => q.elim (h.run pins s σ H D I) (k.run pins s σ H D I)⟩
theorem vs_forKeys {tg : Expr} {x : Str} {p pos : Pos} {body : List Stmt} {i : Nat} {g : VTG} {t : VTS} (hp : PassesOwn (model X.prog X.w) X.A X.env X.xe) (hc : X.calm = true) (hN : X.N[i]? = some x) (hv : Vis X.env.scope x) (hg : VTa X tg g) (hb : VSs X body t)
    (hd : (x == ("__debug__" : Str)) = false := by decide) (hcd : (x == ("__classdict__" : Str)) = false := by decide)
    (hs : ∀ z, foldedSetIterable (.Name x p) X.env z = pure z := by intro _; rfl) : VS X (.For tg (.Name x p) body [] pos) (vForKeys i g t) := by
  obtain ⟨g', g1, g2⟩ := hg.ex
  obtain ⟨t', t1, t2⟩ := hb.ex
  have F := ps_for (pos := pos) hp hc (pi_keys (pe_var (i := i) hN hv hd hcd)) g1 (t1 (fun _ _ _ _ => False) takes_noX) hs
  refine ⟨fun _ => fun D σ H => tLock (tFor (iKeys (tVar i)) g' (t' fun _ _ _ _ => False)) D σ H ∨ tFor (iKeys (tVar i)) g' (t' fun _ _ _ _ => False) D σ H, fun W tk => ps_or (ps_lock F) F, fun b σ H ε T Tv W N E I q l xl => ?_⟩
  obtain ⟨ks, xs, e, q⟩ := q
  obtain ⟨a, vs, hs2, hl, hcase⟩ := I.dictAt e
  have t3 : ∀ (b : Bx X) σ H ε T Tv N E, SI X.K b.1 σ H ε T Tv → t N ε → EL X.K b.1 T Tv N E → N.rx = (fun _ _ _ => False) → t' (fun _ _ _ _ => False) E σ H := fun b σ H ε T Tv N E I q l hx => t2 b σ H ε T Tv _ N E I q l fun _ _ _ _ _ _ _ _ _ _ z => by rw [hx] at z; exact z
  rcases hcase with ⟨G, F0, Ft, J, hG⟩ | ⟨o, hH⟩
  · left
    refine ⟨a, _, J.sub _ _ hG, trivial, fun od => ?_⟩
    obtain ⟨bL, k1, k2, k3, I2, out⟩ := J.lock hG od
    have bx : ∀ (j : Nat) u, bL.kv[j]? = some (some u) → X.κ[j]? = some true := fun j u z => b.2 j u (by rw [← k1]; exact z)
    refine keys_run (N := { N with rx := fun _ _ _ => False }) g2 t3 ⟨bL, bx⟩ I2 hs2 upd_same (by show bL.H0 a = _; rw [k2]; exact upd_same) k3 hl q rfl ⟨fun σ' H' ε' J' z' => ?_, fun σ' H' ε' d v J' z' => ?_, fun σ' H' ε' J' z' => ?_, fun σ' H' ε' J' z' => ?_⟩
    · exact ⟨(out _ _ _ _ _ J').1, l.nx _ _ _ (out _ _ _ _ _ J').2 z'⟩
    · exact ⟨(out _ _ _ _ _ J').1, l.rt _ _ _ _ _ (out _ _ _ _ _ J').2 z'⟩
    · exact ⟨(out _ _ _ _ _ J').1, l.bk _ _ _ (out _ _ _ _ _ J').2 z'⟩
    · exact ⟨(out _ _ _ _ _ J').1, l.ct _ _ _ (out _ _ _ _ _ J').2 z'⟩
  · right
    obtain ⟨bL, k1, k2, k3, I2, out⟩ := I.held
    have bx : ∀ (j : Nat) u, bL.kv[j]? = some (some u) → X.κ[j]? = some true := fun j u z => b.2 j u (by rw [← k1]; exact z)
    exact keys_run (N := { N with rx := fun _ _ _ => False }) g2 t3 ⟨bL, bx⟩ I2 hs2 hH (by show bL.H0 a = _; rw [k2]; exact hH) (k3 a _ _ hH) hl q rfl ⟨fun σ' H' ε' J' z' => l.nx _ _ _ (out _ _ _ _ _ J') z', fun σ' H' ε' d v J' z' => l.rt _ _ _ _ _ (out _ _ _ _ _ J') z', fun σ' H' ε' J' z' => l.bk _ _ _ (out _ _ _ _ _ J') z', fun σ' H' ε' J' z' => l.ct _ _ _ (out _ _ _ _ _ J') z'⟩
end
end VL
/-! VL56: comprehensions that map, loops over numbers. -/
namespace VL
open PySem PySem.Spec PyProof.Rows L2 VL
theorem ep_back {ε : Ep} {i : Nat} (h : ε[i]? = some none) (d : Option D) : (ε.set i d).set i none = ε := by
  rw [List.set_set]
  apply List.ext_getElem?
  intro j
  rw [List.getElem?_set]
  by_cases e : i = j
  · subst e
    rw [if_pos rfl]
    split
    · exact h.symm
    · next z => rw [List.getElem?_eq_none (by omega)]
  · rw [if_neg e]
theorem lc_map {α : Type} {te te' : VTE} {i : Nat} {ε : Ep} {Q : List D → Ep → Prop} {f g : α → D} (he : te = te') : ∀ (ks : List α) (acc : List D),
    (∀ k ∈ ks, ∀ P : D → Ep → Prop, P (f k) (ε.set i (some (g k))) → te' noX (ε.set i (some (g k))) P) → ε[i]? = some none → acc.length + ks.length ≤ 1000000 → Q (acc ++ ks.map f) ε → vLcL [i] (vName i) vYes te (ks.map g) acc ε Q
  | [], acc, _, _, _, q => by
    rw [List.map_nil, List.append_nil] at q
    exact q
  | k :: ks, acc, h, hn, hl, q => by
    have hl : acc.length + (ks.length + 1) ≤ 1000000 := hl
    rw [List.map_cons, e_lcU he]
    refine ⟨(List.getElem?_eq_some_iff.mp hn).1, ?_⟩
    show if (true : Bool) = true then te' noX (ε.set i (some (g k))) (fun y ε3 => acc.length < 1000000 ∧ vLcL [i] (vName i) vYes te (ks.map g) (acc ++ [y]) (forgetE [i] ε3) Q) else vLcL [i] (vName i) vYes te (ks.map g) acc (forgetE [i] (ε.set i (some (g k)))) Q
    rw [if_pos rfl]
    refine h k List.mem_cons_self _ ⟨by omega, ?_⟩
    have e : forgetE [i] (ε.set i (some (g k))) = ε := ep_back hn _
    rw [e]
    refine lc_map he ks (acc ++ [f k]) (fun k2 h2 => h k2 (List.mem_cons_of_mem _ h2)) hn (by rw [List.length_append, List.length_singleton]; omega) ?_
    rw [List.append_assoc]
    exact q
theorem lc_rng {te te' : VTE} {i n : Nat} {ε : Ep} {Q : List D → Ep → Prop} {f : Nat → D} (he : te = te')
    (h : ∀ k < n, ∀ P : D → Ep → Prop, P (f k) (ε.set i (some (.int (k : Int)))) → te' noX (ε.set i (some (.int (k : Int)))) P) (hn : ε[i]? = some none) (hl : n ≤ 1000000) (q : Q ((List.range n).map f) ε) : vLcL [i] (vName i) vYes te (rng 0 n) [] ε Q := by
  rw [rng0]
  exact lc_map (g := fun k : Nat => D.int (k : Int)) he (List.range n) [] (fun k hk => h k (List.mem_range.mp hk)) hn (by simp; omega) q
theorem cutL_init {α : Type} (xs : List α) (x : α) : cutL (xs ++ [x]) none (some (-1)) = xs := by
  show ((xs ++ [x]).drop 0).take (HT.sIx (xs ++ [x]).length (xs ++ [x]).length (some (-1)) - 0) = _
  have e : HT.sIx (xs ++ [x]).length (xs ++ [x]).length (some (-1)) = xs.length := by
    rw [List.length_append, List.length_singleton]
    unfold HT.sIx
    simp
    omega
  rw [e, List.drop_zero, Nat.sub_zero, List.take_left]
end VL
/-! VL57: plain data without None. -/
namespace VL
open PySem PySem.Spec PyProof.Rows L2 VL
mutual
def plN : Nat → D → Bool
  | _, .bl _ => true
  | _, .int _ => true
  | _, .str _ => true
  | n + 1, .tup xs => decide (xs.length < 1000000) && plNL n xs
  | n + 1, .lst m xs => !m && (decide (xs.length < 1000000) && plNL n xs)
  | _, _ => false
def plNL : Nat → List D → Bool
  | _, [] => true
  | n, d :: ds => plN n d && plNL n ds
end
theorem plNL_all : ∀ (n : Nat) (ds : List D), plNL n ds = ds.all (plN n)
  | _, [] => by rw [plNL]; rfl
  | n, d :: ds => by rw [plNL, plNL_all n ds, List.all_cons]
theorem plN_fz : ∀ (n : Nat) (d : D), plN n d = true → isFz d = true := by
  intro n
  induction n with
  | zero => intro d h; cases d <;> first | rfl | (simp [plN] at h; done)
  | succ n ih =>
    have l : ∀ xs, plNL n xs = true → isFzL xs = true := fun xs h => by
      rw [plNL_all] at h
      rw [isFzL_all]
      exact List.all_eq_true.mpr fun x hx => ih x (List.all_eq_true.mp h x hx)
    intro d h
    cases d with
    | tup xs => exact l xs (by simp [plN] at h; exact h.2)
    | lst m xs =>
      cases m with
      | true => simp [plN] at h
      | false => show (!false && isFzL xs) = true; rw [l xs (by simp [plN] at h; exact h.2)]; rfl
    | _ => first | rfl | (simp [plN] at h; done)
theorem plNL_fz {n : Nat} {xs : List D} (h : plNL n xs = true) : isFzL xs = true := by
  rw [plNL_all] at h
  rw [isFzL_all]
  exact List.all_eq_true.mpr fun x hx => plN_fz n x (List.all_eq_true.mp h x hx)
theorem plN_int (n : Nat) (i : Int) : plN n (.int i) = true := by cases n <;> rfl
theorem plN_str (n : Nat) (i : Cs) : plN n (.str i) = true := by cases n <;> rfl
theorem plN_bl (n : Nat) (i : Bool) : plN n (.bl i) = true := by cases n <;> rfl
theorem plN_tup {n : Nat} {xs : List D} (h1 : xs.length < 1000000) (h2 : plNL n xs = true) : plN (n + 1) (.tup xs) = true := by
  show (decide (xs.length < 1000000) && plNL n xs) = true
  rw [h2, decide_eq_true h1]
  rfl
theorem plN_lst {n : Nat} {xs : List D} (h1 : xs.length < 1000000) (h2 : plNL n xs = true) : plN (n + 1) (.lst false xs) = true := by
  show (!false && (decide (xs.length < 1000000) && plNL n xs)) = true
  rw [h2, decide_eq_true h1]
  rfl
theorem ded_plN (d : Dd) (n : Nat) : plN (n + 1) (dedD d) = true := by
  cases d with
  | sum x i s j r => exact plN_tup (by simp [dedL]) (by simp [dedL, plNL_all, plN_int, plN_str])
  | test i s j t => exact plN_tup (by simp [dedL]) (by simp [dedL, plNL_all, plN_int, plN_str, plN_bl])
theorem deds_plN {ds : List Dd} (h : ds.length < 1000000) {n : Nat} : plN (n + 2) (.lst false (ds.map dedD)) = true := by
  refine plN_lst (by simpa using h) ?_
  rw [plNL_all, List.all_map]
  exact List.all_eq_true.mpr fun d _ => ded_plN d n
end VL
/-! VL58: a call to which what is ours is only lent: what it tells is made anew. -/
namespace VL
open PySem PySem.Spec PyProof.Rows L2 VL
mutual
/-- nothing in it that stood before but numbers, texts, tuples -/
def newD : D → Bool
  | .non => true
  | .bl _ => true
  | .int _ => true
  | .str _ => true
  | .ty _ => true
  | .tup ds => newDL ds
  | .lst m ds => m && newDL ds
  | .dK m _ ds => m && newDL ds
  | .dT m _ ds => m && newDL ds
  | _ => false
def newDL : List D → Bool
  | [] => true
  | d :: ds => newD d && newDL ds
end
theorem newDL_all : ∀ ds : List D, newDL ds = ds.all newD
  | [] => by rw [newDL]; rfl
  | d :: ds => by rw [newDL, newDL_all ds, List.all_cons]
section
variable {K : PySem.W.Frag} {G1 G2 H : Hp}
mutual
theorem Rp.lend (hs : ∀ a vs, G1 a = some (.tup vs) → G2 a = some (.tup vs)) : ∀ {d : D} {v : V} {F : List Addr}, newD d = true → Rp K G1 H d v F → Rp K G2 H d v F
  | .hole, _, _, n, _ => by cases n
  | .val _, _, _, n, _ => by cases n
  | .pin _ _, _, _, n, _ => by cases n
  | .exn _ _ _ _, _, _, n, _ => by cases n
  | .ins _ _ _ _, _, _, n, _ => by cases n
  | .non, _, _, _, h => h
  | .bl _, _, _, _, h => h
  | .int _, _, _, _, h => h
  | .str _, _, _, _, h => h
  | .ty _, _, _, _, h => h
  | .tup ds, v, F, n, h => by
    obtain ⟨a, vs, e, s, r⟩ := h
    exact ⟨a, vs, e, hs _ _ s, RpL.lend hs (by simpa [newD] using n) r⟩
  | .lst false ds, v, F, n, _ => by simp [newD] at n
  | .lst true ds, v, F, n, h => by
    obtain ⟨a, vs, F', e, s, rfl, r⟩ := h
    exact ⟨a, vs, F', e, s, rfl, RpL.lend hs (by simpa [newD] using n) r⟩
  | .dK false ks ds, v, F, n, _ => by simp [newD] at n
  | .dK true ks ds, v, F, n, h => by
    obtain ⟨a, vs, F', e, s, rfl, l, nd, r⟩ := h
    exact ⟨a, vs, F', e, s, rfl, l, nd, RpL.lend hs (by simpa [newD] using n) r⟩
  | .dT false ks ds, v, F, n, _ => by simp [newD] at n
  | .dT true ks ds, v, F, n, h => by
    obtain ⟨a, vs, F', e, s, rfl, l, nd, r⟩ := h
    exact ⟨a, vs, F', e, s, rfl, l, nd, RpL.lend hs (by simpa [newD] using n) r⟩
theorem RpL.lend (hs : ∀ a vs, G1 a = some (.tup vs) → G2 a = some (.tup vs)) : ∀ {ds : List D} {vs : List V} {F : List Addr}, newDL ds = true → RpL K G1 H ds vs F → RpL K G2 H ds vs F
  | [], _, _, _, h => h
  | d :: ds, vs, F, n, h => by
    obtain ⟨v, vs', F1, F2, rfl, rfl, r, rs⟩ := h
    have n2 : newD d = true ∧ newDL ds = true := by simpa [newDL] using n
    exact ⟨v, vs', F1, F2, rfl, rfl, Rp.lend hs n2.1 r, RpL.lend hs n2.2 rs⟩
end
end
def lendG (G G1 : Hp) : Hp := fun a => match G a with
  | some o => some o
  | none => match G1 a with
    | some (.tup vs) => some (.tup vs)
    | _ => none
theorem lendG_l {G G1 : Hp} {a : Addr} {o : HO} (h : G a = some o) : lendG G G1 a = some o := by unfold lendG; rw [h]
theorem lendG_cases {G G1 : Hp} {a : Addr} {o : HO} (h : lendG G G1 a = some o) : G a = some o ∨ (G a = none ∧ ∃ vs, o = .tup vs ∧ G1 a = some (.tup vs)) := by
  unfold lendG at h
  split at h
  · next e => exact .inl (e.trans h)
  · next e =>
    split at h
    · next vs e2 => cases h; exact .inr ⟨e, vs, rfl, e2⟩
    · cases h
section
variable {K : PySem.W.Frag} {b : Bs} {σ : L2.St} {H H' : Hp} {ε : Ep} {T : List D} {Tv : List V}
theorem SI.lend (I : SI K b σ H ε T Tv) {ds : List D} {vs : List V} {r : D} {v : V} (I' : SI K (callB H H []) [] H' [] (ds ++ [r]) (vs ++ [v])) (hl : ds.length = vs.length) (hz : newD r = true) : SI K b σ H' ε (T ++ [r]) (Tv ++ [v]) := by
  obtain ⟨G, F, Ft, J⟩ := I
  obtain ⟨G1, Fs, Ft', J'⟩ := I'
  obtain ⟨_, rfl⟩ := J'.slots
  obtain ⟨F1, F2, rfl, _, r2⟩ := J'.temps.split2 hl
  have r2 := RpL.one.mp r2
  have keep : ∀ a o, H a = some o → H' a = some o := fun a o e => J'.keep a o e fun z => nomatch z
  have new : ∀ a ∈ F2, H a = none := fun a z => by
    rcases J'.own a (by simp [z]) with h | h
    · exact nomatch h
    · exact h
  have there : ∀ a ∈ F ++ Ft, ∃ o, H a = some o ∧ Mut (some o) := fun a z => by
    rcases List.mem_append.mp z with z | z
    · exact J.slots.there a z
    · exact J.temps.there a z
  have same : ∀ a ∈ F ++ Ft, H' a = H a := fun a z => by
    obtain ⟨o, e, _⟩ := there a z
    rw [e, keep a o e]
  have sg : Sub G (lendG G G1) := fun a o e => lendG_l e
  have tp : ∀ a vs, G1 a = some (.tup vs) → lendG G G1 a = some (.tup vs) := fun a vs e => by
    cases h : G a with
    | none => unfold lendG; rw [h, e]
    | some o =>
      have h1 := J'.s0 a o (J.sub a o h)
      rw [e] at h1
      cases h1
      exact lendG_l h
  refine ⟨lendG G G1, F, Ft ++ F2, J.s0.trans sg, fun a o e => ?_, J.slots.mono sg fun a z => same a (List.mem_append_left _ z), (J.temps.mono sg fun a z => same a (List.mem_append_right _ z)).append (RpL.one.mpr (Rp.lend tp hz r2)), ?_, fun a z => ?_, fun a z => ?_, fun a o e => ?_, fun a o e n => keep a o (J.keep a o e n), J.kept⟩
  · rcases lendG_cases e with h | ⟨_, vs, rfl, h2⟩
    · exact keep a o (J.sub a o h)
    · exact J'.sub a _ h2
  · rw [← List.append_assoc]
    refine List.nodup_append.mpr ⟨J.nd, ?_, fun a z c hc e => ?_⟩
    · have := J'.nd
      rw [List.nil_append] at this
      exact (List.nodup_append.mp this).2.1
    · subst e
      obtain ⟨o, e, _⟩ := there a z
      rw [new a hc] at e
      cases e
  · rw [← List.append_assoc] at z
    rcases List.mem_append.mp z with z | z
    · have g0 := J.fr a z
      cases h : lendG G G1 a with
      | none => rfl
      | some o =>
        rcases lendG_cases h with h | ⟨_, vs, rfl, h2⟩
        · rw [g0] at h; cases h
        · have h1 := J'.sub a _ h2
          rw [same a z] at h1
          obtain ⟨o, e, m⟩ := there a z
          rw [h1] at e
          cases e
          exact m.elim
    · cases h : lendG G G1 a with
      | none => rfl
      | some o =>
        rcases lendG_cases h with h | ⟨_, vs, rfl, h2⟩
        · have := J.sub a o h
          rw [new a z] at this
          cases this
        · rw [J'.fr a (by simp [z])] at h2
          cases h2
  · rw [← List.append_assoc] at z
    rcases List.mem_append.mp z with z | z
    · exact J.own a z
    · exact J.h0 (new a z)
  · rcases lendG_cases e with h | ⟨_, vs, rfl, h2⟩
    · exact J.gn a o h
    · exact .inr (.inr (.inr ⟨vs, rfl⟩))
end
section
variable {X : Cv}
def vLend (vsp : VSp) (t : VTVs) : VTE := fun N ε Q => t ε fun ds => vsp ds (fun r ds' => newD r = true ∧ Q r ε) (fun cls row ds' => newD row = true ∧ N cls row ε)
theorem ve_lend {x : Str} {p pos : Pos} {e : Expr} {es : List Expr} {t : VTVs} {k n : Nat} {vsp : VSp} (F : Fv X.prog X.w X.K X.mg X.base x k n vsp) (m : Mono vsp) (hr : Room k X.A) (hg : Gl X.toCx x) (hn : (e :: es).length = n) (ha : VVs X (e :: es) t)
    (hdb : (x == ("__debug__" : Str)) = false := by decide) (he : starEach (e :: es) X.env = (false, eval e X.env) :: starEach es X.env := by rfl) (hpl : (backTo pos (starEach es X.env)).any (·.1) = false := by rfl) :
    VE X (.Call (.Name x p) (e :: es) [] pos) (vLend vsp t) := by
  obtain ⟨f, fd, ps, hm, hk, hb, F⟩ := F.ex
  obtain ⟨t', a1, a2⟩ := ha.ex
  refine ⟨fun W => tCallS (Lift X.K n vsp) (WE W) (t' W), fun W tk => pe_callS F hr hg hm hk hb (fun σ => passAt tk σ) (a1 W tk) hdb he hpl, fun b σ H ε T Tv W N Q Q' I q kk x => ?_⟩
  refine a2 b σ H ε T Tv W _ _ I q fun ds vs H1 s1 rr l z => ?_
  have I1 := I.grow s1
  have ll : ∀ {ds' : List D} {d : D} {v : V} {H' : Hp}, SI X.K (callB H1 H1 []) [] H' [] (ds' ++ [d]) (vs ++ [v]) → ds'.length = vs.length := fun I' => by
    have := I'.lenT
    simpa using this
  refine ⟨H1, [], ds, si_view rr, by rw [l, hn], m _ _ _ _ _ (fun r ds' q' v H' I' => ?_) (fun cls row ds' q' dd v H' I' e fr => ?_) z⟩
  · exact kk r v ε H' (I1.lend I' (ll I') q'.1) q'.2
  · refine x cls dd σ H' ε row v (I1.lend I' (ll I') q'.1) e ?_ q'.2
    rcases fr with h | h
    · exact nomatch h
    · obtain ⟨_, _, _, J⟩ := I1
      exact J.h0 h
end
end VL
/-! VL59: d.clear(). -/
namespace VL
open PySem PySem.Spec PyProof.Rows L2 VL
def rClearD : V → List V → Hp → VK → Prop := fun x vs H Q => ∃ l kvs, x = .ref l ∧ vs = [] ∧ H l = some (.dK kvs) ∧ Q .non (upd H l (.dK []))
theorem mt_clearD {X : Cx} : MtR X "dict.clear" rClearD := by
  intro pins s σ H x vs v us Q I rx rv h
  obtain ⟨l, kvs, rfl, rfl, hH, q⟩ := h
  cases rx
  have hus := rv.zero
  subst hus
  exact d_clear I hH fun s' I' => ⟨.non, _, I', rfl, q⟩
section
variable {X : Cv}
theorem tyV_dict {K : PySem.W.Frag} {b : Bs} {σ : L2.St} {H : Hp} {ε : Ep} {T : List D} {Tv : List V} (I : SI K b σ H ε T Tv) {i : Nat} {d0 : D} {p : List Stp} {v0 v : V} {ks : List Kc} {ds : List D} (e : ε[i]? = some (some d0)) (g : getP d0 p = some (.dK true ks ds)) (hs : σ[i]? = some (some v0)) (at_ : AtP H d0 v0 p v) : tyV K "dict" v H := by
  obtain ⟨G, B, FR, su, rr, _⟩ := I.nil0.focusAt I.lenT e g hs at_
  obtain ⟨a, vs, F', rfl, ha, _⟩ := rr
  exact .inr (.inr (.inl ⟨rfl, .inl ⟨_, ha⟩⟩))
def vClrD (i : Nat) (t : VTP) : VTE := fun N ε Q => t N ε fun p => ∃ d0 ks ds, ε[i]? = some (some d0) ∧ getP d0 p = some (.dK true ks ds) ∧ Q .non (ε.set i (some (setP d0 p (.dK true [] []))))
theorem mp_clearD {o : Expr} {i : Nat} {t : VTP} {apos cpos : Pos} (h : VP X o i t)
    (hbase : attributeBase o "clear" X.env (eval o X.env) = eval o X.env := by rfl) (hline : (apos.endLine == cpos.line) = true := by rfl) :
    VE X (.Call (.Attribute o "clear" apos) [] [] cpos) (vClrD i t) := by
  obtain ⟨t', a1, a2⟩ := h.ex
  refine ⟨fun W => tBM0 X.K "dict" rClearD (t' W), fun W tk => pe_bm0 PySem.F.plainAttrs_dict PySem.F.slot_dict_clear PySem.F.type_dict_clear mt_clearD (a1 W tk) hbase hline, fun b σ H ε T Tv W N Q Q' I q k x => ?_⟩
  refine a2 b σ H ε T Tv W N _ _ I q (fun p d0 d v0 v H1 s1 I1 e0 g hs at_ q1 => ?_) x
  obtain ⟨d0', ks, ds, e1, g', q2⟩ := q1
  rw [e0] at e1
  cases e1
  refine ⟨tyV_dict I1 e0 g' hs at_, ?_⟩
  obtain ⟨G, B, FR, su, rr, rR, nd, fr, back⟩ := I1.nil0.focusAt I.lenT e0 g' hs at_
  obtain ⟨a, vs, F', rfl, ha, rfl, _, _, rl⟩ := rr
  refine ⟨a, _, rfl, rfl, ha, k .non .non _ _ (back (upd H1 a (.dK [])) (.dK true [] []) [a] .non .non [] (fun c hc => upd_ne fun z => hc (by rw [z]; simp)) ⟨a, [], [], rfl, upd_same, rfl, rfl, List.nodup_nil, rfl, rfl⟩ ⟨rfl, rfl⟩ (.inl (by simp)) ⟨F' ++ FR, ?_⟩) q2⟩
  simp
end
end VL
/-! VL60: how great the numbers of a run are; a run comes to its end. -/
namespace VL
open PySem PySem.Spec PyProof.Rows L2 PySem.W
theorem two_succ (n : Nat) : (2 : Int) ^ (n + 1) = 2 * 2 ^ n := by rw [Int.pow_succ]; omega
theorem and_fits : ∀ (n : Nat) (x y : Int), -(2 : Int) ^ n ≤ x → x < 2 ^ n → -(2 : Int) ^ n ≤ y → y < 2 ^ n → -(2 : Int) ^ n ≤ Builtin.bitAnd x y ∧ Builtin.bitAnd x y < 2 ^ n
  | 0, x, y, h1, h2, h3, h4 => by
    rw [Int.pow_zero] at *
    have hx : x = -1 ∨ x = 0 := by omega
    have hy : y = -1 ∨ y = 0 := by omega
    rcases hx with rfl | rfl <;> rcases hy with rfl | rfl <;> decide
  | n + 1, x, y, h1, h2, h3, h4 => by
    have e := two_succ n
    rw [e] at *
    have ih := and_fits n (x / 2) (y / 2) (by omega) (by omega) (by omega) (by omega)
    rw [kbt_halves]
    split <;> omega
theorem xor_halves (x y : Int) : Builtin.bitXor x y = 2 * Builtin.bitXor (x / 2) (y / 2) + (x % 2 + y % 2 - 2 * (if x % 2 = 1 ∧ y % 2 = 1 then 1 else 0)) := by
  rw [bitXor_and, bitXor_and, kbt_halves x y]
  split <;> omega
theorem xor_fits : ∀ (n : Nat) (x y : Int), -(2 : Int) ^ n ≤ x → x < 2 ^ n → -(2 : Int) ^ n ≤ y → y < 2 ^ n → -(2 : Int) ^ n ≤ Builtin.bitXor x y ∧ Builtin.bitXor x y < 2 ^ n
  | 0, x, y, h1, h2, h3, h4 => by
    rw [Int.pow_zero] at *
    have hx : x = -1 ∨ x = 0 := by omega
    have hy : y = -1 ∨ y = 0 := by omega
    rcases hx with rfl | rfl <;> rcases hy with rfl | rfl <;> decide
  | n + 1, x, y, h1, h2, h3, h4 => by
    have e := two_succ n
    rw [e] at *
    have ih := xor_fits n (x / 2) (y / 2) (by omega) (by omega) (by omega) (by omega)
    rw [xor_halves]
    split <;> omega
theorem pdiv_abs {i j : Int} (h : j ≠ 0) : (pdiv i j).natAbs ≤ i.natAbs := by
  unfold pdiv
  have key : ∀ a b : Int, 0 < b → (a / b).natAbs ≤ a.natAbs := fun a b hb => by
    have h1 := Int.mul_ediv_add_emod a b
    have h2 := Int.emod_nonneg a (show b ≠ 0 by omega)
    have h3 := Int.emod_lt_of_pos a hb
    by_cases h0 : 0 ≤ a
    · have h4 := Int.ediv_nonneg h0 (show 0 ≤ b by omega)
      have h5 := Int.ediv_le_self b h0
      omega
    · have h4 : a / b < 0 := Int.ediv_neg_of_neg_of_pos (by omega) hb
      have h5 : a ≤ a / b := by
        have := Int.le_ediv_of_mul_le hb (show a * b ≤ a by
          have : a * b ≤ a * 1 := Int.mul_le_mul_of_nonpos_left (by omega) (by omega)
          omega)
        exact this
      omega
  split
  · next hp => exact key i j hp
  · next hp =>
    have e : i.fdiv j = (-i) / (-j) := by
      rw [← Int.neg_fdiv_neg, Int.fdiv_eq_ediv_of_nonneg _ (by omega)]
    rw [e]
    have := key (-i) (-j) (by omega)
    omega
theorem pmod_abs {i j : Int} (h : j ≠ 0) : (pmod i j).natAbs < j.natAbs := by
  unfold pmod
  split
  · next hp =>
    have h2 := Int.emod_nonneg i (show j ≠ 0 by omega)
    have h3 := Int.emod_lt_of_pos i hp
    omega
  · next hp =>
    have e : i.fmod j = - ((-i) % (-j)) := by
      have h1 := Int.fmod_def i j
      have h2 : i.fdiv j = (-i) / (-j) := by rw [← Int.neg_fdiv_neg, Int.fdiv_eq_ediv_of_nonneg _ (by omega)]
      rw [h1, h2, Int.emod_def, Int.neg_mul]
      omega
    have h2 := Int.emod_nonneg (-i) (show -j ≠ 0 by omega)
    have h3 := Int.emod_lt_of_pos (-i) (show 0 < -j by omega)
    omega
/-- below 2 ^ B either way -/
abbrev Bd (B : Nat) (i : Int) : Prop := i.natAbs < 2 ^ B
theorem bd_le {B C : Nat} {i : Int} (h : Bd B i) (hc : B ≤ C) : Bd C i := Nat.lt_of_lt_of_le h (Nat.pow_le_pow_right (by decide) hc)
theorem bd_iff {B : Nat} {i : Int} : Bd B i ↔ -(2 : Int) ^ B < i ∧ i < 2 ^ B := by
  have e := kbt_cast B
  unfold Bd
  rw [← e]
  omega
theorem made_bd {B : Nat} {s : Cs} {i j v : Int} (hi : Bd B i) (hj : Bd B j) (h : madeV s i j = some v) : Bd (B + 1) v := by
  have h1 := bd_iff.mp hi
  have h2 := bd_iff.mp hj
  have e := two_succ B
  unfold madeV at h
  split at h
  · cases h
    rw [bd_iff, e]
    omega
  split at h
  · cases h
    rw [bd_iff, e]
    omega
  split at h
  · cases h
    have := and_fits B i j (by omega) (by omega) (by omega) (by omega)
    have p := kbt_pos B
    rw [bd_iff, e]
    omega
  split at h
  · cases h
    have := xor_fits B i j (by omega) (by omega) (by omega) (by omega)
    have p := kbt_pos B
    rw [bd_iff, e]
    omega
  split at h
  · cases h
  next hz =>
  split at h
  · cases h
    exact bd_le (Nat.lt_of_le_of_lt (pdiv_abs hz) hi) (by omega)
  · cases h
    exact bd_le (Nat.lt_trans (pmod_abs hz) hj) (by omega)
def MemB (B : Nat) (M : Mem) : Prop := ∀ p ∈ M, Bd B p.2
theorem memB_le {B C : Nat} {M : Mem} (h : MemB B M) (hc : B ≤ C) : MemB C M := fun p hp => bd_le (h p hp) hc
theorem look_bd {B : Nat} {M : Mem} (h : MemB B M) (s : Cs) : Bd B (lookM M s) := by
  have p0 : Bd B 0 := Nat.pow_pos (by decide)
  induction M with
  | nil => exact p0
  | cons q M ih =>
    by_cases e : (s == q.1) = true
    · have : lookM (q :: M) s = q.2 := by unfold lookM; rw [List.lookup, e]; rfl
      rw [this]
      exact h q List.mem_cons_self
    · have : lookM (q :: M) s = lookM M s := by
        unfold lookM
        have e2 : (s == q.1) = false := by simpa using e
        rw [List.lookup, e2]
      rw [this]
      exact ih fun p hp => h p (List.mem_cons_of_mem _ hp)
def OpB (B : Nat) : Opd → Prop
  | .inl i => Bd B i
  | .inr _ => True
theorem worth_bd {B : Nat} {M : Mem} (h : MemB B M) {a : Opd} (ha : OpB B a) : Bd B (worthM M a) := by
  cases a with
  | inl i => exact ha
  | inr s => exact look_bd h s
theorem opB_le {B C : Nat} {a : Opd} (h : OpB B a) (hc : B ≤ C) : OpB C a := by
  cases a with
  | inl i => exact bd_le h hc
  | inr s => trivial
theorem put_bd {B : Nat} {M : Mem} (h : MemB B M) {s : Cs} {v : Int} (hv : Bd B v) : MemB B (putM M s v) := fun p hp => by
  rcases putM_mem p hp with e | e
  · rw [e]; exact hv
  · exact h p e
def Rw.opB (B : Nat) : Rw → Prop
  | .sum _ _ a _ b => OpB B a ∧ OpB B b
  | _ => True
/-- what a run asks of its numbers, while k deeds are done -/
structure RBd (rs : List Rw) (B : Nat) (M0 : Nat) (s : RS) : Prop where
  mem : MemB (B + s.done.length) s.mem
  len : s.mem.length ≤ M0 + s.done.length
theorem sm_bd {B : Nat} {i : Int} (h : Bd B i) (hb : B ≤ 250) : Sm i := bd_le h hb
/-- a run comes to its end -/
theorem runs_ex {rs : List Rw} (R : RwOk rs) {B M0 : Nat} {most : Nat} (hB : B + most ≤ 250) (hM : M0 + most ≤ 100000) (ro : ∀ r ∈ rs, r.opB B) : ∀ (d j : Nat) (s : RS), s.done.length + d = most → s.jumps + j = rs.length → s.pos < rs.length → RBd rs B M0 s → ∃ res n, RunsN rs most res n s := by
  intro d
  induction d with
  | zero =>
    intro j
    induction j with
    | zero =>
      rintro ⟨pos, jumps, mem, done⟩ hd hj hp I
      have hd : done.length + 0 = most := hd
      have hj : jumps + 0 = rs.length := hj
      have hp : pos < rs.length := hp
      have ok : RSok rs ⟨pos, jumps, mem, done⟩ := ⟨hp, by have := I.len; show mem.length ≤ _; have : mem.length ≤ M0 + done.length := I.len; omega, by show done.length ≤ _; omega, fun n x a sg b e => by
        have ob := ro _ (List.mem_of_getElem? e)
        exact sm_bd (worth_bd I.mem (opB_le ob.2 (by omega))) (by show B + done.length ≤ 250; omega)⟩
      obtain ⟨r, hr⟩ : ∃ r, rs[pos]? = some r := ⟨_, List.getElem?_eq_getElem hp⟩
      cases r with
      | fin n => exact ⟨_, 0, .stop ok (stepR_fin hr)⟩
      | jump n to => exact ⟨_, 0, .stop ok (by rw [stepR_jump hr, if_pos (by omega)])⟩
      | sum n x a sg b => exact ⟨_, 0, .stop ok (by rw [stepR_sum hr, if_pos (by omega)])⟩
      | test n a sg b to => exact ⟨_, 0, .stop ok (by rw [stepR_test hr, if_pos (by omega)])⟩
    | succ j ih =>
      rintro ⟨pos, jumps, mem, done⟩ hd hj hp I
      have hd : done.length + 0 = most := hd
      have hj : jumps + (j + 1) = rs.length := hj
      have hp : pos < rs.length := hp
      have ok : RSok rs ⟨pos, jumps, mem, done⟩ := ⟨hp, by have := I.len; show mem.length ≤ _; have : mem.length ≤ M0 + done.length := I.len; omega, by show done.length ≤ _; omega, fun n x a sg b e => by
        have ob := ro _ (List.mem_of_getElem? e)
        exact sm_bd (worth_bd I.mem (opB_le ob.2 (by omega))) (by show B + done.length ≤ 250; omega)⟩
      obtain ⟨r, hr⟩ : ∃ r, rs[pos]? = some r := ⟨_, List.getElem?_eq_getElem hp⟩
      cases r with
      | fin n => exact ⟨_, 0, .stop ok (stepR_fin hr)⟩
      | jump n to =>
        have tm := R.tos _ (List.mem_of_getElem? hr) to (by simp [Rw.tos])
        obtain ⟨res, n, h⟩ := ih ⟨(nums rs).idxOf to, jumps + 1, mem, done⟩ hd (by show jumps + 1 + j = _; omega) (by show _ < rs.length; rw [← nums_len]; exact List.idxOf_lt_length_iff.mpr tm) ⟨I.mem, I.len⟩
        exact ⟨res, n + 1, .go ok (by rw [stepR_jump hr, if_neg (by omega)]) h⟩
      | sum n x a sg b => exact ⟨_, 0, .stop ok (by rw [stepR_sum hr, if_pos (by omega)])⟩
      | test n a sg b to => exact ⟨_, 0, .stop ok (by rw [stepR_test hr, if_pos (by omega)])⟩
  | succ d ihd =>
    intro j
    have main : ∀ (j : Nat) (rec : ∀ s' : RS, s'.done.length + (d + 1) = most → s'.jumps + j = rs.length + 1 → s'.jumps ≤ rs.length → s'.pos < rs.length → RBd rs B M0 s' → ∃ res n, RunsN rs most res n s') (s : RS), s.done.length + (d + 1) = most → s.jumps + j = rs.length → s.pos < rs.length → RBd rs B M0 s → ∃ res n, RunsN rs most res n s := by
      rintro j rec ⟨pos, jumps, mem, done⟩ hd hj hp I
      have hd : done.length + (d + 1) = most := hd
      have hj : jumps + j = rs.length := hj
      have hp : pos < rs.length := hp
      have hl : mem.length ≤ M0 + done.length := I.len
      have ok : RSok rs ⟨pos, jumps, mem, done⟩ := ⟨hp, by show mem.length ≤ _; omega, by show done.length ≤ _; omega, fun n x a sg b e => by
        have ob := ro _ (List.mem_of_getElem? e)
        exact sm_bd (worth_bd I.mem (opB_le ob.2 (by omega))) (by show B + done.length ≤ 250; omega)⟩
      obtain ⟨r, hr⟩ : ∃ r, rs[pos]? = some r := ⟨_, List.getElem?_eq_getElem hp⟩
      cases r with
      | fin n => exact ⟨_, 0, .stop ok (stepR_fin hr)⟩
      | jump n to =>
        have tm := R.tos _ (List.mem_of_getElem? hr) to (by simp [Rw.tos])
        by_cases hq : rs.length < jumps + 1
        · exact ⟨_, 0, .stop ok (by rw [stepR_jump hr, if_pos hq])⟩
        · obtain ⟨res, n, h⟩ := rec ⟨(nums rs).idxOf to, jumps + 1, mem, done⟩ hd (by show jumps + 1 + j = _; omega) (by show jumps + 1 ≤ _; omega) (by show _ < rs.length; rw [← nums_len]; exact List.idxOf_lt_length_iff.mpr tm) ⟨I.mem, I.len⟩
          exact ⟨res, n + 1, .go ok (by rw [stepR_jump hr, if_neg hq]) h⟩
      | sum n x a sg b =>
        have ob := ro _ (List.mem_of_getElem? hr)
        cases e : madeV sg (worthM mem a) (worthM mem b) with
        | none => exact ⟨_, 0, .stop ok (by rw [stepR_sum hr, if_neg (by omega), e])⟩
        | some v =>
          have vb : Bd (B + done.length + 1) v := made_bd (worth_bd I.mem (opB_le ob.1 (by show B ≤ B + done.length; omega))) (worth_bd I.mem (opB_le ob.2 (by show B ≤ B + done.length; omega))) e
          have hf := R.last _ _ hr rfl
          obtain ⟨res, n, h⟩ := ihd rs.length ⟨pos + 1, 0, putM mem x v, done ++ [.sum x (worthM mem a) sg (worthM mem b) v]⟩ (by simp; omega) (by show 0 + _ = _; omega) (by show pos + 1 < _; omega) ⟨by
            have : (done ++ [Dd.sum x (worthM mem a) sg (worthM mem b) v]).length = done.length + 1 := by simp
            show MemB (B + (done ++ [Dd.sum x (worthM mem a) sg (worthM mem b) v]).length) (putM mem x v)
            rw [this]
            exact put_bd (memB_le I.mem (by show B + done.length ≤ _; omega)) vb, by
            have := putM_len mem x v
            show (putM mem x v).length ≤ M0 + (done ++ [Dd.sum x (worthM mem a) sg (worthM mem b) v]).length
            simp
            omega⟩
          exact ⟨res, n + 1, .go ok (by rw [stepR_sum hr, if_neg (by omega), e]) h⟩
      | test n a sg b to =>
        have tm := R.tos _ (List.mem_of_getElem? hr) to (by simp [Rw.tos])
        have hf := R.last _ _ hr rfl
        obtain ⟨res, n, h⟩ := ihd rs.length ⟨if holdsV sg (worthM mem a) (worthM mem b) = true then (nums rs).idxOf to else pos + 1, 0, mem, done ++ [.test (worthM mem a) sg (worthM mem b) (holdsV sg (worthM mem a) (worthM mem b))]⟩ (by simp; omega) (by show 0 + _ = _; omega) (by
          show (if holdsV sg (worthM mem a) (worthM mem b) = true then (nums rs).idxOf to else pos + 1) < _
          split
          · rw [← nums_len]; exact List.idxOf_lt_length_iff.mpr tm
          · omega) ⟨memB_le I.mem (by simp), by have := I.len; simp at this ⊢; omega⟩
        exact ⟨res, n + 1, .go ok (by rw [stepR_test hr, if_neg (by omega)]) h⟩
    induction j with
    | zero => exact main 0 fun s' _ h1 h2 => by omega
    | succ j ih => exact main (j + 1) fun s' h0 h1 _ h3 h4 => ih s' h0 (by omega) h3 h4
theorem runs_start {rs : List Rw} (R : RwOk rs) {B : Nat} {most : Nat} {M : Mem} (hB : B + most ≤ 250) (hM : M.length + most ≤ 100000) (ro : ∀ r ∈ rs, r.opB B) (hm : MemB B M) : ∃ res n, RunsN rs most res n ⟨0, 0, M, []⟩ :=
  runs_ex R hB hM ro most rs.length ⟨0, 0, M, []⟩ (by simp) (by show 0 + _ = _; omega) R.pos ⟨hm, by simp⟩
/-- one answer alone -/
theorem runs_one {rs : List Rw} {most : Int} {res res' : Told} : ∀ {n m : Nat} {s : RS}, RunsN rs most res n s → RunsN rs most res' m s → res = res' := by
  intro n
  induction n with
  | zero =>
    intro m s h k
    cases h with
    | stop _ e =>
      cases k with
      | stop _ e' => rw [e] at e'; cases e'; rfl
      | go _ e' _ => rw [e] at e'; cases e'
  | succ n ih =>
    intro m s h k
    cases h with
    | go _ e r =>
      cases k with
      | stop _ e' => rw [e] at e'; cases e'
      | go _ e' r' => rw [e] at e'; cases e'; exact ih r r'
/-- how much is told -/
theorem runs_size {rs : List Rw} {most : Int} {res : Told} : ∀ {n : Nat} {s : RS}, RunsN rs most res n s → res.1.length ≤ 100000 ∧ res.2.2.length ≤ 100000 := by
  intro n
  induction n with
  | zero =>
    intro s h
    cases h with
    | stop ok e =>
      have hm := ok.mem
      have hd := ok.done
      unfold stepR at e
      split at e
      · cases e
      · cases e; exact ⟨hd, hm⟩
      · split at e <;> cases e
        exact ⟨hd, hm⟩
      · split at e
        · cases e; exact ⟨hd, hm⟩
        · split at e <;> cases e
          exact ⟨hd, hm⟩
      · split at e <;> cases e
        exact ⟨hd, hm⟩
  | succ n ih =>
    intro s h
    cases h with
    | go _ _ r => exact ih r
end VL
/-! VL61: signs of rows; the deed of a row. -/
namespace VL
open PySem PySem.Spec PyProof.Rows L2 VL
abbrev cRest : Cs := [114, 101, 115, 116]
def signOk (s : Cs) : Prop := s = [43] ∨ s = [45] ∨ s = [47] ∨ s = cRest ∨ s = [38] ∨ s = [94]
def testOk (s : Cs) : Prop := s = [60] ∨ s = [61]
def Rw.sgn : Rw → Prop
  | .sum _ _ _ s _ => signOk s
  | .test _ _ s _ _ => testOk s
  | _ => True
def Rw.smB (M : Mem) : Rw → Prop
  | .sum _ _ _ _ b => Sm (worthM M b)
  | _ => True
/-- the deed of a row; none: refused -/
def deedR (M : Mem) : Rw → Option Dd
  | .sum _ x a s b => (madeV s (worthM M a) (worthM M b)).map fun v => .sum x (worthM M a) s (worthM M b) v
  | .test _ a s b _ => some (.test (worthM M a) s (worthM M b) (holdsV s (worthM M a) (worthM M b)))
  | _ => none
def optDd : Option Dd → D
  | some d => dedD d
  | none => .non
theorem made_ne {s : Cs} (h : s ≠ [47] ∧ s ≠ cRest) (g : signOk s) (i j : Int) : ∃ v, madeV s i j = some v := by
  rcases g with rfl | rfl | rfl | rfl | rfl | rfl
  · exact ⟨_, rfl⟩
  · exact ⟨_, rfl⟩
  · exact absurd rfl h.1
  · exact absurd rfl h.2
  · exact ⟨_, rfl⟩
  · exact ⟨_, rfl⟩
theorem made_dv {s : Cs} (h : s = [47] ∨ s = cRest) (i j : Int) : madeV s i j = none ↔ j = 0 := by
  rcases h with rfl | rfl
  · show (if j = 0 then none else some (pdiv i j)) = none ↔ _
    split <;> simp_all
  · show (if j = 0 then none else some (pmod i j)) = none ↔ _
    split <;> simp_all
theorem plc_put1 {ks : List Nat} {vs : List D} {k : Nat} {y : D} (h : k ∉ ks) (hl : vs.length < 1000000) {P : D → Prop} : (∃ c, putD (.dK true (natK ks) vs) (.int (k : Int)) y = some c ∧ P c) ↔ P (.dK true (natK (ks ++ [k])) (vs ++ [y])) := by
  have e : putD (.dK true (natK ks) vs) (.int (k : Int)) y = some (.dK true (natK (ks ++ [k])) (vs ++ [y])) := by
    show (if vs.length < 1000000 then (some (Sum.inl (k : Int) : Kc)).map (fun z => match kIx (natK ks) z with | some j => D.dK true (natK ks) (vs.set j y) | none => .dK true (natK ks ++ [z]) (vs ++ [y])) else none) = _
    rw [if_pos hl]
    show some (match kIx (natK ks) (Sum.inl (k : Int)) with | some j => D.dK true (natK ks) (vs.set j y) | none => .dK true (natK ks ++ [Sum.inl (k : Int)]) (vs ++ [y])) = _
    rw [kIx_nat, if_neg h, natK_app]
  rw [e]
  exact ⟨fun ⟨_, e, p⟩ => by cases e; exact p, fun p => ⟨_, rfl, p⟩⟩
theorem nums_take {rs : List Rw} {i : Nat} (h : i < rs.length) : nums (rs.take (i + 1)) = nums (rs.take i) ++ [rs[i].num] := by
  unfold nums
  rw [List.take_succ_eq_append_getElem h, List.map_append]
  rfl
theorem range_snoc (i : Nat) : natsD (List.range i) ++ [D.int (i : Int)] = natsD (List.range (i + 1)) := by
  rw [List.range_succ]
  unfold natsD
  simp
theorem num_new {rs : List Rw} (nd : (nums rs).Nodup) {i : Nat} (h : i < rs.length) : rs[i].num ∉ nums (rs.take i) := fun z => by
  have nd2 : (nums (rs.take (i + 1))).Nodup := nd.sublist ((List.take_sublist _ _).map _)
  rw [nums_take h, List.nodup_append] at nd2
  exact nd2.2.2 _ z _ (by simp) rfl
theorem num_ix (r : Rw) : ixD (rwD r) (.int 0) = some (.int (r.num : Int)) := by cases r <;> rfl
theorem cutL_maps {α β : Type} (f : α → β) (xs : List α) (lo hi : Option Int) : cutL (xs.map f) lo hi = (cutL xs lo hi).map f := by
  unfold cutL
  rw [List.length_map, List.map_take, List.map_drop]
theorem slice_script (ns : List Int) (lo hi : Option Int) : sliceD (scriptD ns) lo hi = some (.lst true ((cutL ns lo hi).map D.int)) := by
  show (if isFzL (ns.map D.int) = true then some (D.lst true (cutL (ns.map D.int) lo hi)) else none) = _
  rw [if_pos (show isFzL (ns.map D.int) = true from script_fz ns), cutL_maps]
theorem frz_ints (ns : List Int) : frzL (ns.map D.int) = ns.map D.int := frzL_id (show isFzL (ns.map D.int) = true from script_fz ns)
theorem cutL_at {α : Type} {xs : List α} {lo hi : Option Int} {x : α} (h : x ∈ cutL xs lo hi) : x ∈ xs := by
  unfold cutL at h
  exact List.mem_of_mem_drop (List.mem_of_mem_take h)
theorem cutL_few {α : Type} (xs : List α) (a b : Nat) : (cutL xs (some (a : Int)) (some (b : Int))).length ≤ b - a := by
  unfold cutL
  have e1 : HT.sIx xs.length 0 (some (a : Int)) = min a xs.length := by
    show (if ((a : Nat) : Int) < 0 then (((a : Nat) : Int) + (xs.length : Int)).toNat else min ((a : Nat) : Int).toNat xs.length) = _
    rw [if_neg (by omega)]
    rfl
  have e2 : HT.sIx xs.length xs.length (some (b : Int)) = min b xs.length := by
    show (if ((b : Nat) : Int) < 0 then (((b : Nat) : Int) + (xs.length : Int)).toNat else min ((b : Nat) : Int).toNat xs.length) = _
    rw [if_neg (by omega)]
    rfl
  rw [e1, e2, List.length_take]
  omega
theorem op_plN (n : Nat) (a : Opd) : plN n (opD a) = true := by cases a with
  | inl i => exact plN_int n i
  | inr s => exact plN_str n s
theorem rw_plN (r : Rw) (n : Nat) : plN (n + 1) (rwD r) = true := by
  cases r <;> exact plN_tup (by simp [rwL]) (by simp [rwL, plNL_all, plN_int, plN_str, op_plN])
theorem rws_plN {rs : List Rw} (h : rs.length < 1000000) {n : Nat} : plN (n + 2) (.lst false (rs.map rwD)) = true := by
  refine plN_lst (by simpa using h) ?_
  rw [plNL_all, List.all_map]
  exact List.all_eq_true.mpr fun r _ => rw_plN r n
theorem new_dd (d : Dd) : newD (dedD d) = true := by cases d <;> rfl
theorem new_dds (ds : List Dd) : newDL (ds.map dedD) = true := by rw [newDL_all]; simp [new_dd]
theorem new_mm (M : Mem) : newD (mmD true M) = true := by
  show (true && newDL (M.map fun p : Cs × Int => D.int p.2)) = true
  rw [newDL_all]
  simp [newD]
theorem new_told (r : Told) : newD (toldD r) = true := by
  show newDL [.lst true (r.1.map dedD), .str r.2.1, mmD true r.2.2] = true
  show ((true && newDL (r.1.map dedD)) && (true && (newD (mmD true r.2.2) && true))) = true
  rw [new_dds, new_mm]
  rfl
theorem new_opt (d : Option Dd) : newD (optDd d) = true := by cases d with
  | none => rfl
  | some d => exact new_dd d
end VL
/-! VL62: runs told from deed to deed. -/
namespace VL
open PySem PySem.Spec PyProof.Rows L2 VL
/-- along jumps to what is none; none: round and round -/
def folJ (nx : Nat → Option Nat) : Nat → Nat → Option Nat
  | 0, _ => none
  | f + 1, p => match nx p with
    | none => some p
    | some b => folJ nx f b
def fol (rs : List Rw) (p : Nat) : Option Nat := folJ (nxJ rs) (rs.length + 1) p
theorem folJ_none {nx : Nat → Option Nat} {f p : Nat} (h : nx p = none) : folJ nx (f + 1) p = some p := by
  show (match nx p with | none => some p | some b => folJ nx f b) = _
  rw [h]
theorem folJ_some {nx : Nat → Option Nat} {f p b : Nat} (h : nx p = some b) : folJ nx (f + 1) p = folJ nx f b := by
  show (match nx p with | none => some p | some b => folJ nx f b) = _
  rw [h]
theorem folJ_end {nx : Nat → Option Nat} : ∀ {f p q : Nat}, folJ nx f p = some q → nx q = none
  | 0, _, _, h => nomatch h
  | f + 1, p, q, h => by
    cases e : nx p with
    | none => rw [folJ_none e] at h; cases h; exact e
    | some b => rw [folJ_some e] at h; exact folJ_end h
theorem folJ_up {nx : Nat → Option Nat} : ∀ {f p q : Nat}, folJ nx f p = some q → folJ nx (f + 1) p = some q
  | 0, _, _, h => nomatch h
  | f + 1, p, q, h => by
    cases e : nx p with
    | none => rw [folJ_none e] at h ⊢; exact h
    | some b => rw [folJ_some e] at h ⊢; exact folJ_up h
/-- n steps of jumps -/
def itJ (nx : Nat → Option Nat) : Nat → Nat → Option Nat
  | 0, p => some p
  | n + 1, p => (nx p).bind (itJ nx n)
theorem itJ_add {nx : Nat → Option Nat} : ∀ {n m p q : Nat}, itJ nx n p = some q → itJ nx (n + m) p = itJ nx m q
  | 0, m, p, q, h => by cases h; rw [Nat.zero_add]
  | n + 1, m, p, q, h => by
    rw [Nat.succ_add]
    show (nx p).bind (itJ nx (n + m)) = _
    cases e : nx p with
    | none =>
      have h : (nx p).bind (itJ nx n) = some q := h
      rw [e] at h; cases h
    | some b =>
      have h : (nx p).bind (itJ nx n) = some q := h
      rw [e] at h
      exact itJ_add (p := b) h
theorem itJ_part {nx : Nat → Option Nat} : ∀ {n m p q : Nat}, itJ nx (n + m) p = some q → ∃ r, itJ nx n p = some r ∧ itJ nx m r = some q
  | 0, m, p, q, h => ⟨p, rfl, by rwa [Nat.zero_add] at h⟩
  | n + 1, m, p, q, h => by
    rw [Nat.succ_add] at h
    have h : (nx p).bind (itJ nx (n + m)) = some q := h
    cases e : nx p with
    | none => rw [e] at h; cases h
    | some b =>
      rw [e] at h
      obtain ⟨r, h1, h2⟩ := itJ_part (n := n) (m := m) (p := b) h
      exact ⟨r, by show (nx p).bind _ = _; rw [e]; exact h1, h2⟩
theorem folJ_it {nx : Nat → Option Nat} : ∀ {f p q : Nat}, folJ nx f p = some q ↔ ∃ n, n < f ∧ itJ nx n p = some q ∧ nx q = none
  | 0, p, q => ⟨fun h => (nomatch h), fun ⟨_, h, _⟩ => (nomatch h)⟩
  | f + 1, p, q => by
    cases e : nx p with
    | none =>
      rw [folJ_none e]
      constructor
      · intro h
        cases h
        exact ⟨0, by omega, rfl, e⟩
      · rintro ⟨n, _, h, _⟩
        cases n with
        | zero => cases h; rfl
        | succ n =>
          have h : (nx p).bind (itJ nx n) = some q := h
          rw [e] at h; cases h
    | some b =>
      rw [folJ_some e, folJ_it]
      constructor
      · rintro ⟨n, h1, h2, h3⟩
        exact ⟨n + 1, by omega, by show (nx p).bind _ = _; rw [e]; exact h2, h3⟩
      · rintro ⟨n, h1, h2, h3⟩
        cases n with
        | zero => cases h2; rw [e] at h3; cases h3
        | succ n =>
          have h2 : (nx p).bind (itJ nx n) = some q := h2
          rw [e] at h2
          exact ⟨n, by omega, h2, h3⟩
/-- no place twice on the way to what is no jump -/
theorem it_inj {nx : Nat → Option Nat} {n p q : Nat} (h : itJ nx n p = some q) (hq : nx q = none) {i j : Nat} {r : Nat} (hi : itJ nx i p = some r) (hj : itJ nx j p = some r) (hin : i ≤ n) (hjn : j ≤ n) : i = j := by
  have key : ∀ i j, i ≤ n → j ≤ n → itJ nx i p = some r → itJ nx j p = some r → j ≤ i := by
    intro i j hin hjn hi hj
    apply Classical.byContradiction
    intro hlt
    -- from r: n - i steps lead to q, n - j steps lead to q
    have h1 : itJ nx (n - i) r = some q := by
      have := itJ_add (m := n - i) hi
      rw [show i + (n - i) = n by omega, h] at this
      exact this.symm
    have h2 : itJ nx (n - j) r = some q := by
      have := itJ_add (m := n - j) hj
      rw [show j + (n - j) = n by omega, h] at this
      exact this.symm
    have h3 := itJ_add (m := j - i) h2
    rw [show n - j + (j - i) = n - i by omega, h1] at h3
    obtain ⟨k, hk⟩ : ∃ k, j - i = k + 1 := ⟨j - i - 1, by omega⟩
    rw [hk] at h3
    have h3 : some q = (nx q).bind (itJ nx k) := h3
    rw [hq] at h3
    cases h3
  exact Nat.le_antisymm (key j i hjn hin hj hi) (key i j hin hjn hi hj)
theorem it_lt {nx : Nat → Option Nat} {m : Nat} (hx : ∀ k b, nx k = some b → b < m) : ∀ {n p q : Nat}, p < m → itJ nx n p = some q → q < m
  | 0, p, q, hp, h => by cases h; exact hp
  | n + 1, p, q, hp, h => by
    have h : (nx p).bind (itJ nx n) = some q := h
    cases e : nx p with
    | none => rw [e] at h; cases h
    | some b => rw [e] at h; exact it_lt hx (hx p b e) h
theorem it_few {nx : Nat → Option Nat} {m : Nat} (hx : ∀ k b, nx k = some b → b < m) {n p q : Nat} (hp : p < m) (h : itJ nx n p = some q) (hq : nx q = none) : n < m := by
  have nd : ((List.range (n + 1)).map fun i => (itJ nx i p).getD 0).Nodup := by
    refine List.pairwise_map.mpr (List.nodup_range.imp_of_mem fun {a b} ha hb hab e => ?_)
    have ha := List.mem_range.mp ha
    have hb := List.mem_range.mp hb
    obtain ⟨ra, h1, _⟩ := itJ_part (n := a) (m := n - a) (p := p) (q := q) (by rw [show a + (n - a) = n by omega]; exact h)
    obtain ⟨rb, h2, _⟩ := itJ_part (n := b) (m := n - b) (p := p) (q := q) (by rw [show b + (n - b) = n by omega]; exact h)
    rw [h1, h2] at e
    have e : ra = rb := e
    subst e
    exact hab (it_inj h hq h1 h2 (by omega) (by omega))
  have := nodup_len nd fun x hxm => by
    obtain ⟨i, hi, rfl⟩ := List.mem_map.mp hxm
    have hi := List.mem_range.mp hi
    obtain ⟨r, h1, _⟩ := itJ_part (n := i) (m := n - i) (p := p) (q := q) (by rw [show i + (n - i) = n by omega]; exact h)
    rw [h1]
    exact it_lt hx hp h1
  simp at this
  omega
/-- more steps allowed tell no more -/
theorem folJ_fuel {nx : Nat → Option Nat} {m : Nat} (hx : ∀ k b, nx k = some b → b < m) {p : Nat} (hp : p < m) {f g : Nat} (hf : m ≤ f) (hg : m ≤ g) : folJ nx f p = folJ nx g p := by
  apply Option.ext
  intro q
  rw [folJ_it, folJ_it]
  constructor
  · rintro ⟨n, _, h2, h3⟩
    exact ⟨n, by have := it_few hx hp h2 h3; omega, h2, h3⟩
  · rintro ⟨n, _, h2, h3⟩
    exact ⟨n, by have := it_few hx hp h2 h3; omega, h2, h3⟩
theorem fol_lt {rs : List Rw} (R : RwOk rs) {p q : Nat} (hp : p < rs.length) (h : fol rs p = some q) : q < rs.length := by
  obtain ⟨n, _, h2, _⟩ := folJ_it.mp h
  exact it_lt (fun k b => nx_lt R) hp h2
theorem fol_end {rs : List Rw} {p q : Nat} (h : fol rs p = some q) : nxJ rs q = none := folJ_end h
theorem fol_self {rs : List Rw} {p : Nat} (h : nxJ rs p = none) : fol rs p = some p := folJ_none h
theorem fol_twice {rs : List Rw} {p q : Nat} (h : fol rs p = some q) : fol rs q = some q := fol_self (fol_end h)
theorem fol_jump {rs : List Rw} (R : RwOk rs) {p b : Nat} (hp : p < rs.length) (h : nxJ rs p = some b) : fol rs p = fol rs b := by
  unfold fol
  rw [folJ_some h]
  exact folJ_fuel (fun k b => nx_lt R) (nx_lt R h) (Nat.le_refl _) (by omega)
/-! ### from deed to deed -/
/-- a run from a place, of at most so many deeds: the deeds, the word, the memory, where it came to -/
inductive MR (rs : List Rw) : Nat → Nat → Mem → List Dd → Cs → Mem → Option Nat → Prop
  | ring {m p : Nat} {M : Mem} : fol rs p = none → MR rs m p M [] cOn M none
  | fin {m p q n : Nat} {M : Mem} : fol rs p = some q → rs[q]? = some (.fin n) → MR rs m p M [] cEnd M (some q)
  | full {p q : Nat} {r : Rw} {M : Mem} : fol rs p = some q → rs[q]? = some r → r.falls = true → MR rs 0 p M [] cOn M (some q)
  | fault {m p q : Nat} {r : Rw} {M : Mem} : fol rs p = some q → rs[q]? = some r → r.falls = true → deedR M r = none → MR rs (m + 1) p M [] cFault M (some q)
  | sum {m p q n : Nat} {x s : Cs} {a b : Opd} {v : Int} {M M' : Mem} {ds : List Dd} {w : Cs} {z : Option Nat} : fol rs p = some q → rs[q]? = some (.sum n x a s b) → madeV s (worthM M a) (worthM M b) = some v →
      MR rs m (q + 1) (putM M x v) ds w M' z → MR rs (m + 1) p M (.sum x (worthM M a) s (worthM M b) v :: ds) w M' z
  | test {m p q n to : Nat} {s : Cs} {a b : Opd} {M M' : Mem} {ds : List Dd} {w : Cs} {z : Option Nat} : fol rs p = some q → rs[q]? = some (.test n a s b to) →
      MR rs m (if holdsV s (worthM M a) (worthM M b) = true then (nums rs).idxOf to else q + 1) M ds w M' z → MR rs (m + 1) p M (.test (worthM M a) s (worthM M b) (holdsV s (worthM M a) (worthM M b)) :: ds) w M' z
section
variable {rs : List Rw}
theorem nx_jump {p n to : Nat} (h : rs[p]? = some (.jump n to)) : nxJ rs p = some ((nums rs).idxOf to) := by
  unfold nxJ
  rw [h]
theorem nx_none {p : Nat} {r : Rw} (h : rs[p]? = some r) (hr : ∀ n to, r ≠ .jump n to) : nxJ rs p = none := by
  unfold nxJ
  rw [h]
  cases r with
  | jump n to => exact absurd rfl (hr n to)
  | _ => rfl
/-- only one answer -/
theorem MR.one {m p : Nat} {M : Mem} {ds ds' : List Dd} {w w' : Cs} {M1 M2 : Mem} {z z' : Option Nat} (h : MR rs m p M ds w M1 z) (k : MR rs m p M ds' w' M2 z') : ds = ds' ∧ w = w' ∧ M1 = M2 ∧ z = z' := by
  induction h generalizing ds' w' M2 z' with
  | ring h =>
    cases k with
    | ring _ => exact ⟨rfl, rfl, rfl, rfl⟩
    | fin e _ => rw [h] at e; cases e
    | full e _ _ => rw [h] at e; cases e
    | fault e _ _ _ => rw [h] at e; cases e
    | sum e _ _ _ => rw [h] at e; cases e
    | test e _ _ => rw [h] at e; cases e
  | fin h h2 =>
    cases k with
    | ring e => rw [h] at e; cases e
    | fin e _ => rw [h] at e; cases e; exact ⟨rfl, rfl, rfl, rfl⟩
    | full e e2 e3 => rw [h] at e; cases e; rw [h2] at e2; cases e2; cases e3
    | fault e e2 e3 _ => rw [h] at e; cases e; rw [h2] at e2; cases e2; cases e3
    | sum e e2 _ _ => rw [h] at e; cases e; rw [h2] at e2; cases e2
    | test e e2 _ => rw [h] at e; cases e; rw [h2] at e2; cases e2
  | full h h2 h3 =>
    cases k with
    | ring e => rw [h] at e; cases e
    | fin e e2 => rw [h] at e; cases e; rw [h2] at e2; cases e2; cases h3
    | full e _ _ => rw [h] at e; cases e; exact ⟨rfl, rfl, rfl, rfl⟩
  | fault h h2 h3 h4 =>
    cases k with
    | ring e => rw [h] at e; cases e
    | fin e e2 => rw [h] at e; cases e; rw [h2] at e2; cases e2; cases h3
    | fault e _ _ _ => rw [h] at e; cases e; exact ⟨rfl, rfl, rfl, rfl⟩
    | sum e e2 e3 _ => rw [h] at e; cases e; rw [h2] at e2; cases e2; simp [deedR, e3] at h4
    | test e e2 _ => rw [h] at e; cases e; rw [h2] at e2; cases e2; simp [deedR] at h4
  | sum h h2 h3 _ ih =>
    cases k with
    | ring e => rw [h] at e; cases e
    | fin e e2 => rw [h] at e; cases e; rw [h2] at e2; cases e2
    | fault e e2 e3 e4 => rw [h] at e; cases e; rw [h2] at e2; cases e2; simp [deedR, h3] at e4
    | sum e e2 e3 r =>
      rw [h] at e; cases e; rw [h2] at e2; cases e2; rw [h3] at e3; cases e3
      obtain ⟨rfl, rfl, rfl, rfl⟩ := ih r
      exact ⟨rfl, rfl, rfl, rfl⟩
    | test e e2 _ => rw [h] at e; cases e; rw [h2] at e2; cases e2
  | test h h2 _ ih =>
    cases k with
    | ring e => rw [h] at e; cases e
    | fin e e2 => rw [h] at e; cases e; rw [h2] at e2; cases e2
    | fault e e2 e3 e4 => rw [h] at e; cases e; rw [h2] at e2; cases e2; simp [deedR] at e4
    | sum e e2 e3 r => rw [h] at e; cases e; rw [h2] at e2; cases e2
    | test e e2 r =>
      rw [h] at e; cases e; rw [h2] at e2; cases e2
      obtain ⟨rfl, rfl, rfl, rfl⟩ := ih r
      exact ⟨rfl, rfl, rfl, rfl⟩
/-- a run of run() is one -/
theorem runs_mr (R : RwOk rs) {most : Nat} {res : Told} : ∀ {n p0 pos jumps : Nat} {mem : Mem} {done : List Dd}, RunsN rs most res n ⟨pos, jumps, mem, done⟩ → jumps ≤ rs.length → itJ (nxJ rs) jumps p0 = some pos → done.length ≤ most →
    ∃ ds z, res.1 = done ++ ds ∧ MR rs (most - done.length) p0 mem ds res.2.1 res.2.2 z := by
  intro n
  induction n with
  | zero =>
    intro p0 pos jumps mem done h hj hp hd
    obtain ⟨lt, _, _, _⟩ := h.ok
    have lt : pos < rs.length := lt
    obtain ⟨r, hr⟩ : ∃ r, rs[pos]? = some r := ⟨_, List.getElem?_eq_getElem lt⟩
    have e : stepR rs most ⟨pos, jumps, mem, done⟩ = some (.inl res) := by
      cases h with
      | stop _ e => exact e
    have fl : ∀ (hn : nxJ rs pos = none), fol rs p0 = some pos := fun hn => folJ_it.mpr ⟨jumps, by omega, hp, hn⟩
    cases r with
    | fin k =>
      rw [stepR_fin hr] at e
      cases e
      exact ⟨[], _, (List.append_nil _).symm, .fin (fl (nx_none hr (by simp))) hr⟩
    | jump k to =>
      rw [stepR_jump hr] at e
      split at e
      · cases e
        refine ⟨[], _, (List.append_nil _).symm, .ring ?_⟩
        cases ef : fol rs p0 with
        | none => rfl
        | some q =>
          exfalso
          obtain ⟨m, h1, h2, h3⟩ := folJ_it.mp ef
          have hx := nx_jump hr
          rcases Nat.lt_or_ge jumps m with hlt | hge
          · omega
          · obtain ⟨r, h4, h5⟩ := itJ_part (n := m) (m := jumps - m) (p := p0) (q := pos) (by rw [show m + (jumps - m) = jumps by omega]; exact hp)
            rw [h2] at h4
            cases h4
            cases ej : jumps - m with
            | zero => rw [ej] at h5; cases h5; rw [h3] at hx; cases hx
            | succ k =>
              rw [ej] at h5
              have h5 : (nxJ rs q).bind (itJ (nxJ rs) k) = some pos := h5
              rw [h3] at h5
              cases h5
      · cases e
    | sum k x a sg b =>
      rw [stepR_sum hr] at e
      split at e
      · next hm =>
        cases e
        rw [show most - done.length = 0 by omega]
        exact ⟨[], _, (List.append_nil _).symm, .full (fl (nx_none hr (by simp))) hr rfl⟩
      · next hm =>
        split at e
        · next hv =>
          cases e
          obtain ⟨m, hm2⟩ : ∃ m, most - done.length = m + 1 := ⟨most - done.length - 1, by omega⟩
          rw [hm2]
          exact ⟨[], _, (List.append_nil _).symm, .fault (fl (nx_none hr (by simp))) hr rfl (by simp [deedR, hv])⟩
        · cases e
    | test k a sg b to =>
      rw [stepR_test hr] at e
      split at e
      · next hm =>
        cases e
        rw [show most - done.length = 0 by omega]
        exact ⟨[], _, (List.append_nil _).symm, .full (fl (nx_none hr (by simp))) hr rfl⟩
      · cases e
  | succ n ih =>
    intro p0 pos jumps mem done h hj hp hd
    obtain ⟨lt, _, _, _⟩ := h.ok
    have lt : pos < rs.length := lt
    obtain ⟨r, hr⟩ : ∃ r, rs[pos]? = some r := ⟨_, List.getElem?_eq_getElem lt⟩
    have fl : ∀ (hn : nxJ rs pos = none), fol rs p0 = some pos := fun hn => folJ_it.mpr ⟨jumps, by omega, hp, hn⟩
    have e : ∃ s', stepR rs most ⟨pos, jumps, mem, done⟩ = some (.inr s') ∧ RunsN rs most res n s' := by
      cases h with
      | go _ e r => exact ⟨_, e, r⟩
    obtain ⟨s', e, h'⟩ := e
    cases r with
    | fin k => rw [stepR_fin hr] at e; cases e
    | jump k to =>
      rw [stepR_jump hr] at e
      split at e
      · cases e
      · cases e
        refine ih h' (by omega) ?_ hd
        rw [itJ_add (m := 1) hp]
        show (nxJ rs pos).bind (itJ (nxJ rs) 0) = _
        rw [nx_jump hr]
        rfl
    | sum k x a sg b =>
      rw [stepR_sum hr] at e
      split at e
      · cases e
      · next hm =>
        split at e
        · cases e
        · next v hv =>
          cases e
          have hl : (done ++ [Dd.sum x (worthM mem a) sg (worthM mem b) v]).length = done.length + 1 := by simp
          obtain ⟨ds, z, h1, h2⟩ := ih (p0 := pos + 1) h' (Nat.zero_le _) rfl (by rw [hl]; omega)
          obtain ⟨m, hm2⟩ : ∃ m, most - done.length = m + 1 := ⟨most - done.length - 1, by omega⟩
          rw [hl, show most - (done.length + 1) = m by omega] at h2
          rw [hm2]
          exact ⟨_ :: ds, z, by rw [h1, List.append_assoc]; rfl, .sum (fl (nx_none hr (by simp))) hr hv h2⟩
    | test k a sg b to =>
      rw [stepR_test hr] at e
      split at e
      · cases e
      · next hm =>
        cases e
        have hl : (done ++ [Dd.test (worthM mem a) sg (worthM mem b) (holdsV sg (worthM mem a) (worthM mem b))]).length = done.length + 1 := by simp
        obtain ⟨ds, z, h1, h2⟩ := ih (p0 := if holdsV sg (worthM mem a) (worthM mem b) = true then (nums rs).idxOf to else pos + 1) h' (Nat.zero_le _) rfl (by rw [hl]; omega)
        obtain ⟨m, hm2⟩ : ∃ m, most - done.length = m + 1 := ⟨most - done.length - 1, by omega⟩
        rw [hl, show most - (done.length + 1) = m by omega] at h2
        rw [hm2]
        exact ⟨_ :: ds, z, by rw [h1, List.append_assoc]; rfl, .test (fl (nx_none hr (by simp))) hr h2⟩
theorem runs_mr0 (R : RwOk rs) {most : Nat} {res : Told} {n : Nat} {M : Mem} (h : RunsN rs most res n ⟨0, 0, M, []⟩) : ∃ z, MR rs most 0 M res.1 res.2.1 res.2.2 z := by
  obtain ⟨ds, z, h1, h2⟩ := runs_mr R h (Nat.zero_le _) rfl (Nat.zero_le _)
  rw [List.nil_append] at h1
  rw [h1]
  exact ⟨z, h2⟩
theorem MR.len {m p : Nat} {M : Mem} {ds : List Dd} {w : Cs} {M1 : Mem} {z : Option Nat} (h : MR rs m p M ds w M1 z) : ds.length ≤ m := by
  induction h with
  | sum _ _ _ _ ih => simpa using ih
  | test _ _ _ ih => simpa using ih
  | _ => simp
/-- gone on -/
theorem MR.ring_on {m p : Nat} {M : Mem} {ds : List Dd} {w : Cs} {M1 : Mem} (h : MR rs m p M ds w M1 none) (j : Nat) : MR rs (m + j) p M ds w M1 none ∧ w = cOn := by
  generalize hz : (none : Option Nat) = z at h
  induction h with
  | ring h => exact ⟨.ring h, rfl⟩
  | fin _ _ => cases hz
  | full _ _ _ => cases hz
  | fault _ _ _ _ => cases hz
  | sum h1 h2 h3 _ ih =>
    obtain ⟨i, e⟩ := ih hz
    subst hz
    refine ⟨?_, e⟩
    rw [Nat.succ_add]
    exact .sum h1 h2 h3 i
  | test h1 h2 _ ih =>
    obtain ⟨i, e⟩ := ih hz
    subst hz
    refine ⟨?_, e⟩
    rw [Nat.succ_add]
    exact .test h1 h2 i
theorem MR.from {m p q : Nat} {M M1 : Mem} {ds : List Dd} {w : Cs} {z : Option Nat} (h : MR rs m q M ds w M1 z) (hf : fol rs p = fol rs q) : MR rs m p M ds w M1 z := by
  cases h with
  | ring h => exact .ring (hf.trans h)
  | fin h h2 => exact .fin (hf.trans h) h2
  | full h h2 h3 => exact .full (hf.trans h) h2 h3
  | fault h h2 h3 h4 => exact .fault (hf.trans h) h2 h3 h4
  | sum h h2 h3 r => exact .sum (hf.trans h) h2 h3 r
  | test h h2 r => exact .test (hf.trans h) h2 r
theorem MR.on {m p q : Nat} {M M1 : Mem} {ds : List Dd} {w : Cs} (h : MR rs m p M ds w M1 (some q)) {j : Nat} {ds2 : List Dd} {w2 : Cs} {M2 : Mem} {z2 : Option Nat} (k : MR rs (j + 1) q M1 ds2 w2 M2 z2) : MR rs (m + (j + 1)) p M (ds ++ ds2) w2 M2 z2 := by
  generalize hz : some q = z at h
  induction h with
  | ring _ => cases hz
  | fin h h2 =>
    cases hz
    have k2 := k.one (.fin (fol_twice h) h2)
    obtain ⟨rfl, rfl, rfl, rfl⟩ := k2
    exact .fin h h2
  | full h h2 h3 =>
    cases hz
    rw [Nat.zero_add]
    exact k.from (h.trans (fol_twice h).symm)
  | fault h h2 h3 h4 =>
    cases hz
    have k2 := k.one (.fault (fol_twice h) h2 h3 h4)
    obtain ⟨rfl, rfl, rfl, rfl⟩ := k2
    rw [Nat.succ_add]
    exact .fault h h2 h3 h4
  | sum h1 h2 h3 _ ih =>
    rw [Nat.succ_add]
    exact .sum h1 h2 h3 (ih k hz)
  | test h1 h2 _ ih =>
    rw [Nat.succ_add]
    exact .test h1 h2 (ih k hz)
end
end VL
namespace Pk07
open PySem PySem.Spec PyProof.Rows L2 VL
def top (i : Nat) : Stmt := PySem.Challenge.pw_unjump_k07_run_by_rows.main.body.getD i (.Pass ⟨0, 0, 0, 0⟩)
abbrev s_Deeds_told : Stmt := inClass (top 8) 6
abbrev s_Deeds_test_of : Stmt := inClass (top 8) 5
abbrev s_Deeds_sum_of : Stmt := inClass (top 8) 4
abbrev s_Deeds_name_of : Stmt := inClass (top 8) 3
abbrev s_Deeds_worth_of : Stmt := inClass (top 8) 2
abbrev s_Deeds_full : Stmt := inClass (top 8) 1
abbrev s_Deeds_init : Stmt := inClass (top 8) 0
abbrev s_made : Stmt := top 4
abbrev s_holds : Stmt := top 5
abbrev s_worth : Stmt := top 6
abbrev s_place_behind : Stmt := top 9
abbrev s_run : Stmt := top 10
abbrev s_Lcell : Stmt := top 12
abbrev s_Lmixed : Stmt := top 13
abbrev s_Lnames : Stmt := top 14
abbrev s_Lgreat : Stmt := top 15
abbrev s_Loperand : Stmt := top 16
abbrev s_Lrow : Stmt := top 17
abbrev s_Lrows : Stmt := top 18
abbrev s_Lmemory : Stmt := top 19
abbrev s_Lalike : Stmt := top 20
abbrev s_Lsame_memory : Stmt := top 21
abbrev s_Lworth : Stmt := top 22
abbrev s_Lsum : Stmt := top 23
abbrev s_Ldeed : Stmt := top 24
abbrev s_Lrun : Stmt := top 25
abbrev s_Lfits : Stmt := top 26
abbrev s_law : Stmt := top 27
def RLx : List String := ["ByNought"]
def xt_ByNought : XTab := xtab [("ByNought", true)]
def ctx : List (XC × XTab) := [(.own "ByNought", xt_ByNought)]
def ktx : List (XC × (String → Bool)) := []
abbrev s_ini : Stmt := inClass (top 1) 0
def sp_Deeds_told : VSp := Fsp (fun a : Dds × Cs => [ddsD true a.1, .str a.2]) (fun _ => True) fun a => toldD (a.1.done, a.2, a.1.mem)
theorem mono_Deeds_told : Mono sp_Deeds_told := Fsp.mono
theorem c_Deeds_told {d : Dds} {w : Cs} {A : D → List D → Prop} {B : Value → D → List D → Prop} (q : A (toldD (d.done, w, d.mem)) [ddsD true d, .str w]) : sp_Deeds_told [ddsD true d, .str w] A B := ⟨(d, w), rfl, trivial, q⟩
structure TestA where
  d : Dds
  a : Opd
  s : Cs
  b : Opd
def TestA.t (a : TestA) : Bool := holdsV a.s (worthM a.d.mem a.a) (worthM a.d.mem a.b)
def sp_Deeds_test_of : VSp := Fsp (fun a : TestA => [ddsD true a.d, opD a.a, .str a.s, opD a.b]) (fun a => a.d.done.length < 1000000) (fun a => .bl a.t) fun a => [ddsD true ⟨a.d.mem, a.d.most, a.d.done ++ [.test (worthM a.d.mem a.a) a.s (worthM a.d.mem a.b) a.t]⟩, opD a.a, .str a.s, opD a.b]
theorem mono_Deeds_test_of : Mono sp_Deeds_test_of := Fsp.mono
theorem c_Deeds_test_of {d : Dds} {s : Cs} {a b : Opd} {A : D → List D → Prop} {B : Value → D → List D → Prop} (h : d.done.length < 1000000)
    (q : A (.bl (holdsV s (worthM d.mem a) (worthM d.mem b))) [ddsD true ⟨d.mem, d.most, d.done ++ [.test (worthM d.mem a) s (worthM d.mem b) (holdsV s (worthM d.mem a) (worthM d.mem b))]⟩, opD a, .str s, opD b]) : sp_Deeds_test_of [ddsD true d, opD a, .str s, opD b] A B := ⟨⟨d, a, s, b⟩, rfl, h, q⟩
structure SumA where
  d : Dds
  x : Cs
  a : Opd
  s : Cs
  b : Opd
def SumA.args (a : SumA) : List D := [ddsD true a.d, .str a.x, opD a.a, .str a.s, opD a.b]
def sp_Deeds_sum_of : VSp := fun ds Q E => ∃ a : SumA, ds = a.args ∧ (Sm (worthM a.d.mem a.b) ∧ a.d.mem.length < 1000000 ∧ a.d.done.length < 1000000) ∧ match madeV a.s (worthM a.d.mem a.a) (worthM a.d.mem a.b) with
  | some v => Q .non [ddsD true ⟨putM a.d.mem a.x v, a.d.most, a.d.done ++ [.sum a.x (worthM a.d.mem a.a) a.s (worthM a.d.mem a.b) v]⟩, .str a.x, opD a.a, .str a.s, opD a.b]
  | none => E (.type "ByNought") .non a.args
theorem mono_Deeds_sum_of : Mono sp_Deeds_sum_of := fun ds A A' B B' hA hB ⟨a, e, p, q⟩ => ⟨a, e, p, by
  cases h : madeV a.s (worthM a.d.mem a.a) (worthM a.d.mem a.b) with
  | some r => rw [h] at q; exact hA _ _ q
  | none => rw [h] at q; exact hB _ _ _ q⟩
theorem c_Deeds_sum_of {d : Dds} {x s : Cs} {a b : Opd} {A : D → List D → Prop} {B : Value → D → List D → Prop} (h : Sm (worthM d.mem b) ∧ d.mem.length < 1000000 ∧ d.done.length < 1000000)
    (q : match madeV s (worthM d.mem a) (worthM d.mem b) with
      | some v => A .non [ddsD true ⟨putM d.mem x v, d.most, d.done ++ [.sum x (worthM d.mem a) s (worthM d.mem b) v]⟩, .str x, opD a, .str s, opD b]
      | none => B (.type "ByNought") .non [ddsD true d, .str x, opD a, .str s, opD b]) : sp_Deeds_sum_of [ddsD true d, .str x, opD a, .str s, opD b] A B := ⟨⟨d, x, a, s, b⟩, rfl, h, q⟩
def sp_Deeds_name_of : VSp := Fsp (fun a : Bool × Dds × Cs => [ddsD a.1 a.2.1, .str a.2.2]) (fun _ => True) fun a => .str a.2.2
theorem mono_Deeds_name_of : Mono sp_Deeds_name_of := Fsp.mono
theorem c_Deeds_name_of {m : Bool} {d : Dds} {x : Cs} {A : D → List D → Prop} {B : Value → D → List D → Prop} (q : A (.str x) [ddsD m d, .str x]) : sp_Deeds_name_of [ddsD m d, .str x] A B := ⟨(m, d, x), rfl, trivial, q⟩
def sp_Deeds_worth_of : VSp := Fsp (fun a : Dds × Opd => [ddsD true a.1, opD a.2]) (fun _ => True) fun a => .int (worthM a.1.mem a.2)
theorem mono_Deeds_worth_of : Mono sp_Deeds_worth_of := Fsp.mono
theorem c_Deeds_worth_of {d : Dds} {a : Opd} {A : D → List D → Prop} {B : Value → D → List D → Prop} (q : A (.int (worthM d.mem a)) [ddsD true d, opD a]) : sp_Deeds_worth_of [ddsD true d, opD a] A B := ⟨(d, a), rfl, trivial, q⟩
def sp_Deeds_full : VSp := Fsp (fun a : Dds => [ddsD true a]) (fun _ => True) fun a => .bl (decide (a.most ≤ a.done.length))
theorem mono_Deeds_full : Mono sp_Deeds_full := Fsp.mono
theorem c_Deeds_full {d : Dds} {A : D → List D → Prop} {B : Value → D → List D → Prop} (q : A (.bl (decide (d.most ≤ d.done.length))) [ddsD true d]) : sp_Deeds_full [ddsD true d] A B := ⟨d, rfl, trivial, q⟩
def sp_Deeds_init : VSp := Fsp (fun a : Mem × Int => [.ins true 0 [] [], mmD false a.1, .int a.2]) (fun _ => True) (fun _ => .non) fun a => [ddsD true ⟨a.1, a.2, []⟩, mmD false a.1, .int a.2]
theorem mono_Deeds_init : Mono sp_Deeds_init := Fsp.mono
theorem c_Deeds_init {M : Mem} {most : Int} {A : D → List D → Prop} {B : Value → D → List D → Prop} (q : A .non [ddsD true ⟨M, most, []⟩, mmD false M, .int most]) : sp_Deeds_init [.ins true 0 [] [], mmD false M, .int most] A B := ⟨(M, most), rfl, trivial, q⟩
def sp_made : VSp := Osp (fun a : Cs × Int × Int => [.str a.1, .int a.2.1, .int a.2.2]) (fun a => Sm a.2.2) (fun a => (madeV a.1 a.2.1 a.2.2).map D.int) "ByNought"
theorem mono_made : Mono sp_made := Osp.mono
theorem c_made {s : Cs} {i j : Int} {A : D → List D → Prop} {B : Value → D → List D → Prop} (h : Sm j) (q : match madeV s i j with | some v => A (.int v) [.str s, .int i, .int j] | none => B (.type "ByNought") .non [.str s, .int i, .int j]) : sp_made [.str s, .int i, .int j] A B :=
  ⟨(s, i, j), rfl, h, by
    show match (madeV s i j).map D.int with
      | some r => A r [.str s, .int i, .int j]
      | none => B (.type "ByNought") .non [.str s, .int i, .int j]
    cases e : madeV s i j with
    | some v => rw [e] at q; exact q
    | none => rw [e] at q; exact q⟩
def sp_holds : VSp := Fsp (fun a : Cs × Int × Int => [.str a.1, .int a.2.1, .int a.2.2]) (fun _ => True) fun a => .bl (holdsV a.1 a.2.1 a.2.2)
theorem mono_holds : Mono sp_holds := Fsp.mono
theorem c_holds {s : Cs} {i j : Int} {A : D → List D → Prop} {B : Value → D → List D → Prop} : sp_holds [.str s, .int i, .int j] A B ↔ A (.bl (holdsV s i j)) [.str s, .int i, .int j] :=
  ⟨fun ⟨_, e, h, q⟩ => by cases e; exact q, fun q => ⟨(s, i, j), rfl, trivial, q⟩⟩
def sp_worth : VSp := Fsp (fun a : Opd × Mem => [opD a.1, mmD false a.2]) (fun _ => True) fun a => .int (worthM a.2 a.1)
theorem mono_worth : Mono sp_worth := Fsp.mono
theorem c_worth {a : Opd} {M : Mem} {A : D → List D → Prop} {B : Value → D → List D → Prop} (q : A (.int (worthM M a)) [opD a, mmD false M]) : sp_worth [opD a, mmD false M] A B := ⟨(a, M), rfl, trivial, q⟩
structure PbA where
  rs : List Rw
  k : Nat
  d : Dds
def PbA.args (a : PbA) (d : Dds) : List D := [.lst false (a.rs.map rwD), .int (a.k : Int), plcD false a.rs, ddsD true d]
/-- what a sum or a test row does -/
def sp_place_behind : VSp := fun ds Q E => ∃ a : PbA, ds = a.args a.d ∧ (RwOk a.rs ∧ a.d.mem.length < 1000000 ∧ a.d.done.length < 1000000) ∧ match a.rs[a.k]? with
  | some (.sum _ x o sg p) => Sm (worthM a.d.mem p) ∧ match madeV sg (worthM a.d.mem o) (worthM a.d.mem p) with
    | some v => Q (.int (a.k + 1 : Nat)) (a.args ⟨putM a.d.mem x v, a.d.most, a.d.done ++ [.sum x (worthM a.d.mem o) sg (worthM a.d.mem p) v]⟩)
    | none => E (.type "ByNought") .non (a.args a.d)
  | some (.test _ o sg p to) => Q (.int ((if holdsV sg (worthM a.d.mem o) (worthM a.d.mem p) = true then (nums a.rs).idxOf to else a.k + 1 : Nat) : Int)) (a.args ⟨a.d.mem, a.d.most, a.d.done ++ [.test (worthM a.d.mem o) sg (worthM a.d.mem p) (holdsV sg (worthM a.d.mem o) (worthM a.d.mem p))]⟩)
  | _ => False
theorem mono_place_behind : Mono sp_place_behind := fun ds A A' B B' hA hB ⟨a, e, p, q⟩ => ⟨a, e, p, by
  revert q
  split
  · rintro ⟨h, q⟩
    refine ⟨h, ?_⟩
    revert q
    split
    · exact fun q => hA _ _ q
    · exact fun q => hB _ _ _ q
  · exact fun q => hA _ _ q
  · exact id⟩
theorem c_pb_sum {rs : List Rw} {k n : Nat} {d : Dds} {x sg : Cs} {o p : Opd} {A : D → List D → Prop} {B : Value → D → List D → Prop} (h : RwOk rs ∧ d.mem.length < 1000000 ∧ d.done.length < 1000000) (hr : rs[k]? = some (.sum n x o sg p)) (hs : Sm (worthM d.mem p))
    (q : match madeV sg (worthM d.mem o) (worthM d.mem p) with
      | some v => A (.int (k + 1 : Nat)) [.lst false (rs.map rwD), .int (k : Int), plcD false rs, ddsD true ⟨putM d.mem x v, d.most, d.done ++ [.sum x (worthM d.mem o) sg (worthM d.mem p) v]⟩]
      | none => B (.type "ByNought") .non [.lst false (rs.map rwD), .int (k : Int), plcD false rs, ddsD true d]) : sp_place_behind [.lst false (rs.map rwD), .int (k : Int), plcD false rs, ddsD true d] A B :=
  ⟨⟨rs, k, d⟩, rfl, h, by
    simp only [hr]
    refine ⟨hs, ?_⟩
    cases e : madeV sg (worthM d.mem o) (worthM d.mem p) with
    | some v => rw [e] at q; exact q
    | none => rw [e] at q; exact q⟩
theorem c_pb_test {rs : List Rw} {k n to : Nat} {d : Dds} {sg : Cs} {o p : Opd} {A : D → List D → Prop} {B : Value → D → List D → Prop} (h : RwOk rs ∧ d.mem.length < 1000000 ∧ d.done.length < 1000000) (hr : rs[k]? = some (.test n o sg p to))
    (q : A (.int ((if holdsV sg (worthM d.mem o) (worthM d.mem p) = true then (nums rs).idxOf to else k + 1 : Nat) : Int)) [.lst false (rs.map rwD), .int (k : Int), plcD false rs, ddsD true ⟨d.mem, d.most, d.done ++ [.test (worthM d.mem o) sg (worthM d.mem p) (holdsV sg (worthM d.mem o) (worthM d.mem p))]⟩]) : sp_place_behind [.lst false (rs.map rwD), .int (k : Int), plcD false rs, ddsD true d] A B :=
  ⟨⟨rs, k, d⟩, rfl, h, by
    simp only [hr]
    exact q⟩
structure RunA where
  rs : List Rw
  M : Mem
  most : Int
  res : Told
def RunA.args (a : RunA) : List D := [.lst false (a.rs.map rwD), mmD false a.M, .int a.most]
def sp_run : VSp := fun ds Q _ => ∃ a : RunA, ds = a.args ∧ (RwOk a.rs ∧ ∃ n, RunsN a.rs a.most a.res n ⟨0, 0, a.M, []⟩) ∧ Q (toldD a.res) a.args
theorem mono_run : Mono sp_run := fun ds A A' B B' hA hB ⟨a, e, p, q⟩ => ⟨a, e, p, hA _ _ q⟩
theorem c_run {rs : List Rw} {M : Mem} {most : Int} {res : Told} {A : D → List D → Prop} {B : Value → D → List D → Prop} (R : RwOk rs) {n : Nat} (r : RunsN rs most res n ⟨0, 0, M, []⟩) (q : A (toldD res) [.lst false (rs.map rwD), mmD false M, .int most]) : sp_run [.lst false (rs.map rwD), mmD false M, .int most] A B := ⟨⟨rs, M, most, res⟩, rfl, ⟨R, n, r⟩, q⟩
def cellI (ns : List Int) (k : Int) : Int := ns[k.toNat]?.getD 0
theorem cellI_bits {ns : List Int} (h : ∀ z ∈ ns, Builtin.Int.intBits z ≤ 1048576) (k : Int) : Builtin.Int.intBits (cellI ns k) ≤ 1048576 := by
  unfold cellI
  cases e : ns[k.toNat]? with
  | none => show Builtin.Int.intBits 0 ≤ _; decide
  | some z => exact h z (List.mem_of_getElem? e)
def sp_Lcell : VSp := Fsp (fun a : List Int × Int => [scriptD a.1, .int a.2]) (fun a => 0 ≤ a.2) fun a => .int (cellI a.1 a.2)
theorem mono_Lcell : Mono sp_Lcell := Fsp.mono
theorem c_Lcell {ns : List Int} {k : Int} {A : D → List D → Prop} {B : Value → D → List D → Prop} : sp_Lcell [scriptD ns, .int k] A B ↔ 0 ≤ k ∧ A (.int (cellI ns k)) [scriptD ns, .int k] := by
  constructor
  · rintro ⟨⟨ns', k'⟩, e, h, q⟩
    obtain ⟨e1, e2⟩ := List.cons.inj e
    obtain ⟨e2, _⟩ := List.cons.inj e2
    have e3 := D.int.inj e2
    subst e3
    have e5 : ns = ns' := ints_inj (D.lst.inj e1).2
    subst e5
    exact ⟨h, q⟩
  · exact fun ⟨h, q⟩ => ⟨(ns, k), rfl, h, q⟩
def mixed (c k : Int) : Int :=
  let n := (c % 2147483647 * 48271 + 7919 * k * k + 104729) % 2147483647
  n * n % 2147483629
theorem mixed_lt (c k : Int) : 0 ≤ mixed c k ∧ mixed c k < 2147483629 := by
  unfold mixed
  exact ⟨Int.emod_nonneg _ (by decide), Int.emod_lt_of_pos _ (by decide)⟩
def sp_Lmixed : VSp := Fsp (fun a : Int × Int => [.int a.1, .int a.2]) (fun a => a.2.natAbs < 1125899906842624) fun a => .int (mixed a.1 a.2)
theorem mono_Lmixed : Mono sp_Lmixed := Fsp.mono
theorem c_Lmixed {c k : Int} {A : D → List D → Prop} {B : Value → D → List D → Prop} : sp_Lmixed [.int c, .int k] A B ↔ k.natAbs < 1125899906842624 ∧ A (.int (mixed c k)) [.int c, .int k] :=
  ⟨fun ⟨_, e, h, q⟩ => by cases e; exact ⟨h, q⟩, fun ⟨h, q⟩ => ⟨(c, k), rfl, h, q⟩⟩
def sp_Lnames : VSp := Psp (fun n : Int => [.int n]) (fun _ => True) fun _ r => ∃ nm, r = .lst true (strsD nm) ∧ NmsOk nm ∧ nm.Nodup
theorem mono_Lnames : Mono sp_Lnames := Psp.mono
theorem c_Lnames {n : Int} {A : D → List D → Prop} {B : Value → D → List D → Prop} (q : ∀ nm, NmsOk nm → nm.Nodup → A (.lst true (strsD nm)) [.int n]) : sp_Lnames [.int n] A B := ⟨n, rfl, trivial, fun _ ⟨nm, e, h, h2⟩ => by cases e; exact q nm h h2⟩
def great (n : Int) : Int := n * 948273388530662767682822077 % 2000000000000000001 - 1000000000000000000
theorem great_lt (n : Int) : -1000000000000000000 ≤ great n ∧ great n ≤ 1000000000000000000 := by
  unfold great
  have h1 := Int.emod_nonneg (n * 948273388530662767682822077) (show (2000000000000000001 : Int) ≠ 0 by decide)
  have h2 := Int.emod_lt_of_pos (n * 948273388530662767682822077) (show (0 : Int) < 2000000000000000001 by decide)
  omega
def sp_Lgreat : VSp := Fsp (fun a : Int => [.int a]) (fun a => Builtin.Int.intBits a ≤ 1048600) fun a => .int (great a)
theorem mono_Lgreat : Mono sp_Lgreat := Fsp.mono
theorem c_Lgreat {n : Int} {A : D → List D → Prop} {B : Value → D → List D → Prop} : sp_Lgreat [.int n] A B ↔ Builtin.Int.intBits n ≤ 1048600 ∧ A (.int (great n)) [.int n] :=
  ⟨fun ⟨_, e, h, q⟩ => by cases e; exact ⟨h, q⟩, fun ⟨h, q⟩ => ⟨n, rfl, h, q⟩⟩
def sp_Loperand : VSp := Psp (fun a : Int × Int × List Cs => [.int a.1, .int a.2.1, .lst false (strsD a.2.2)]) (fun a => NmsOk a.2.2 ∧ a.1.natAbs < 4294967296 ∧ Builtin.Int.intBits a.2.1 ≤ 1048576) fun _ r => ∃ o : Opd, r = opD o ∧ o.good = true ∧ OpB 61 o
theorem mono_Loperand : Mono sp_Loperand := Psp.mono
theorem c_Loperand {n z : Int} {nm : List Cs} {A : D → List D → Prop} {B : Value → D → List D → Prop} (h : NmsOk nm ∧ n.natAbs < 4294967296 ∧ Builtin.Int.intBits z ≤ 1048576) (q : ∀ o : Opd, o.good = true → OpB 61 o → A (opD o) [.int n, .int z, .lst false (strsD nm)]) : sp_Loperand [.int n, .int z, .lst false (strsD nm)] A B := ⟨(n, z, nm), rfl, h, fun _ ⟨o, e, g, b⟩ => by cases e; exact q o g b⟩
structure RowA where
  c : Int
  k : Nat
  ns : List Nat
  nm : List Cs
def RowA.pre (a : RowA) : Prop := (NmsOk a.nm ∧ Builtin.Int.intBits a.c ≤ 1048576) ∧ a.k < a.ns.length ∧ a.ns.length ≤ 1000
def RowOk (ns : List Nat) (n : Nat) (r : Rw) : Prop := r.num = n ∧ (∀ t ∈ r.tos, t ∈ ns) ∧ r.good = true ∧ r.opB 61 ∧ r.sgn
def sp_Lrow : VSp := Psp (fun a : RowA => [.int a.c, .int (a.k : Int), .lst false (natsD a.ns), .lst false (strsD a.nm)]) RowA.pre fun a r => ∃ x : Rw, r = rwD x ∧ ∃ n, a.ns[a.k]? = some n ∧ RowOk a.ns n x
theorem mono_Lrow : Mono sp_Lrow := Psp.mono
theorem c_Lrow {c : Int} {k : Nat} {ns : List Nat} {nm : List Cs} {A : D → List D → Prop} {B : Value → D → List D → Prop} {n : Nat} (h : (NmsOk nm ∧ Builtin.Int.intBits c ≤ 1048576) ∧ ns.length ≤ 1000) (hk : ns[k]? = some n) (q : ∀ x : Rw, RowOk ns n x → A (rwD x) [.int c, .int (k : Int), .lst false (natsD ns), .lst false (strsD nm)]) : sp_Lrow [.int c, .int (k : Int), .lst false (natsD ns), .lst false (strsD nm)] A B :=
  ⟨⟨c, k, ns, nm⟩, rfl, ⟨h.1, (List.getElem?_eq_some_iff.mp hk).1, h.2⟩, fun _ ⟨x, e, n', hn, h⟩ => by
    have hn : ns[k]? = some n' := hn
    rw [hk] at hn
    cases hn
    cases e
    exact q x h⟩
def sp_Lrows : VSp := Psp (fun a : List Int × Int × List Cs => [scriptD a.1, .int a.2.1, .lst false (strsD a.2.2)]) (fun a => a.1.length ≤ 60 ∧ (∀ z ∈ a.1, Builtin.Int.intBits z ≤ 1048576) ∧ NmsOk a.2.2) fun _ r => ∃ rs : List Rw, r = .lst true (rs.map rwD) ∧ RwOk rs ∧ rs.length ≤ 61 ∧ ∀ r ∈ rs, r.opB 61 ∧ r.sgn
theorem mono_Lrows : Mono sp_Lrows := Psp.mono
theorem c_Lrows {ns : List Int} {h : Int} {nm : List Cs} {A : D → List D → Prop} {B : Value → D → List D → Prop} (p : ns.length ≤ 60 ∧ (∀ z ∈ ns, Builtin.Int.intBits z ≤ 1048576) ∧ NmsOk nm) (q : ∀ rs : List Rw, RwOk rs → rs.length ≤ 61 → (∀ r ∈ rs, r.opB 61 ∧ r.sgn) → A (.lst true (rs.map rwD)) [scriptD ns, .int h, .lst false (strsD nm)]) : sp_Lrows [scriptD ns, .int h, .lst false (strsD nm)] A B := ⟨(ns, h, nm), rfl, p, fun _ ⟨rs, e, h1, h2, h3⟩ => by cases e; exact q rs h1 h2 h3⟩
def sp_Lmemory : VSp := Psp (fun a : Int × List Cs => [.int a.1, .lst false (strsD a.2)]) (fun a => Builtin.Int.intBits a.1 ≤ 1048576 ∧ NmsOk a.2) fun _ r => ∃ M : Mem, r = mmD true M ∧ MemB 61 M ∧ M.length ≤ 4
theorem mono_Lmemory : Mono sp_Lmemory := Psp.mono
theorem c_Lmemory {c : Int} {nm : List Cs} {A : D → List D → Prop} {B : Value → D → List D → Prop} (h : Builtin.Int.intBits c ≤ 1048576 ∧ NmsOk nm) (q : ∀ M : Mem, MemB 61 M → M.length ≤ 4 → A (mmD true M) [.int c, .lst false (strsD nm)]) : sp_Lmemory [.int c, .lst false (strsD nm)] A B := ⟨(c, nm), rfl, h, fun _ ⟨M, e, h1, h2⟩ => by cases e; exact q M h1 h2⟩
/-- the same plain data, twice -/
def sp_Lalike : Nat → VSp
  | 0 => fun _ _ _ => False
  | n + 1 => Fsp (fun a : D => [a, a]) (fun a => plN n a = true) fun _ => .bl true
theorem mono_Lalike : ∀ n, Mono (sp_Lalike n)
  | 0 => fun _ _ _ _ _ _ _ h => h
  | _ + 1 => Fsp.mono
theorem c_Lalike {n : Nat} {x y : D} {A : D → List D → Prop} {B : Value → D → List D → Prop} (e : x = y) (h : plN n x = true) (q : A (.bl true) [x, x]) : sp_Lalike (n + 1) [x, y] A B := by
  subst e
  exact ⟨x, rfl, h, q⟩
def sp_Lsame_memory : VSp := Fsp (fun M : Mem => [mmD false M, mmD false M]) (fun M => M.length < 1000000) fun _ => .bl true
theorem mono_Lsame_memory : Mono sp_Lsame_memory := Fsp.mono
theorem c_Lsame_memory {M M' : Mem} {A : D → List D → Prop} {B : Value → D → List D → Prop} (e : M = M') (h : M.length < 1000000) (q : A (.bl true) [mmD false M, mmD false M']) : sp_Lsame_memory [mmD false M, mmD false M'] A B := by
  subst e
  exact ⟨M, rfl, h, q⟩
def sp_Lworth : VSp := Fsp (fun a : Opd × Mem => [opD a.1, mmD false a.2]) (fun _ => True) fun a => .int (worthM a.2 a.1)
theorem mono_Lworth : Mono sp_Lworth := Fsp.mono
theorem c_Lworth {a : Opd} {M : Mem} {A : D → List D → Prop} {B : Value → D → List D → Prop} (q : A (.int (worthM M a)) [opD a, mmD false M]) : sp_Lworth [opD a, mmD false M] A B := ⟨(a, M), rfl, trivial, q⟩
def sp_Lsum : VSp := Fsp (fun a : (Cs × Int × Int) × Int => [.str a.1.1, .int a.1.2.1, .int a.1.2.2]) (fun a => signOk a.1.1 ∧ Sm a.1.2.2 ∧ madeV a.1.1 a.1.2.1 a.1.2.2 = some a.2) fun a => .int a.2
theorem mono_Lsum : Mono sp_Lsum := Fsp.mono
theorem c_Lsum {s : Cs} {i j v : Int} {A : D → List D → Prop} {B : Value → D → List D → Prop} (h : signOk s ∧ Sm j ∧ madeV s i j = some v) (q : A (.int v) [.str s, .int i, .int j]) : sp_Lsum [.str s, .int i, .int j] A B := ⟨((s, i, j), v), rfl, h, q⟩
def sp_Ldeed : VSp := Fsp (fun a : Rw × Mem => [rwD a.1, mmD false a.2]) (fun a => a.1.falls = true ∧ a.1.sgn ∧ a.1.smB a.2) fun a => optDd (deedR a.2 a.1)
theorem mono_Ldeed : Mono sp_Ldeed := Fsp.mono
theorem c_Ldeed {r : Rw} {M : Mem} {A : D → List D → Prop} {B : Value → D → List D → Prop} (h : r.falls = true ∧ r.sgn ∧ r.smB M) (q : A (optDd (deedR M r)) [rwD r, mmD false M]) : sp_Ldeed [rwD r, mmD false M] A B := ⟨(r, M), rfl, h, q⟩
def sp_Lrun : VSp := fun ds Q _ => ∃ a : RunA, ds = a.args ∧ (RwOk a.rs ∧ (∀ r ∈ a.rs, r.sgn) ∧ ∃ n, RunsN a.rs a.most a.res n ⟨0, 0, a.M, []⟩) ∧ Q (toldD a.res) a.args
theorem mono_Lrun : Mono sp_Lrun := fun ds A A' B B' hA hB ⟨a, e, p, q⟩ => ⟨a, e, p, hA _ _ q⟩
theorem c_Lrun {rs : List Rw} {M : Mem} {most : Int} {res : Told} {A : D → List D → Prop} {B : Value → D → List D → Prop} (R : RwOk rs) (S : ∀ r ∈ rs, r.sgn) {n : Nat} (r : RunsN rs most res n ⟨0, 0, M, []⟩) (q : A (toldD res) [.lst false (rs.map rwD), mmD false M, .int most]) : sp_Lrun [.lst false (rs.map rwD), mmD false M, .int most] A B := ⟨⟨rs, M, most, res⟩, rfl, ⟨R, S, n, r⟩, q⟩
/-- what is told, standing still -/
def stillD (r : Told) : D := .tup [.lst false (r.1.map dedD), .str r.2.1, mmD false r.2.2]
theorem told_frz (r : Told) : frz (toldD r) = stillD r := by
  show D.tup [frz (.lst true _), .str _, frz (mmD true _)] = _
  rw [mm_frz]
  show D.tup [.lst false (frzL _), _, _] = _
  rw [deds_frz]
  rfl
theorem still_fz (r : Told) : isFz (stillD r) = true := by
  show (((!false) && isFzL (r.1.map dedD)) && (true && (isFz (mmD false r.2.2) && true))) = true
  rw [deds_fz, mm_fz]
  rfl
theorem still_frz (r : Told) : frz (stillD r) = stillD r := frz_id (still_fz r)
def sp_Lfits : VSp := Fsp (fun r : Told => [stillD r, stillD r]) (fun r => r.1.length < 1000000 ∧ r.2.2.length < 1000000) fun _ => .bl true
theorem mono_Lfits : Mono sp_Lfits := Fsp.mono
theorem c_Lfits {r r' : Told} {A : D → List D → Prop} {B : Value → D → List D → Prop} (e : r = r') (h : r.1.length < 1000000 ∧ r.2.2.length < 1000000) (q : A (.bl true) [stillD r, stillD r]) : sp_Lfits [stillD r, stillD r'] A B := by
  subst e
  exact ⟨r, rfl, h, q⟩
def sp_law : VSp := Fsp (fun a : List Int => [scriptD a]) (fun a => a.length ≤ 63 ∧ ∀ z ∈ a, Builtin.Int.intBits z ≤ 1048576) fun _ => .bl true
theorem mono_law : Mono sp_law := Fsp.mono
def t_Deeds_told : VTS := vRet (vTup (vaCons (vListF 0 0 [100, 111, 110, 101]) (vaCons (vVar 1) (vaCons (vDictF 0 0 [109, 101, 109, 111, 114, 121]) (vaNil)))))
def t_Deeds_test_of : VTS := vSeq (vAsg 4 (vMeth 0 0 [119, 111, 114, 116, 104, 95, 111, 102] sp_Deeds_worth_of [none] (vaCons (vVar 1) (vaNil)))) (vSeq (vAsg 5 (vMeth 0 0 [119, 111, 114, 116, 104, 95, 111, 102] sp_Deeds_worth_of [none] (vaCons (vVar 3) (vaNil)))) (vSeq (vAsg 6 (vCall (sp_holds) [none, none, none] (vaCons (vVar 2) (vaCons (vVar 4) (vaCons (vVar 5) (vaNil)))))) (vSeq (vDrop (vMut muAppend 0 (vpFd 0 0 [100, 111, 110, 101] (vpName 0)) (vaCons (vTup (vaCons (vC (.str [116, 101, 115, 116])) (vaCons (vVar 4) (vaCons (vVar 2) (vaCons (vVar 5) (vaCons (vVar 6) (vaNil))))))) (vaNil)))) (vRet (vVar 6)))))
def t_Deeds_sum_of : VTS := vSeq (vAsg 5 (vMeth 0 0 [119, 111, 114, 116, 104, 95, 111, 102] sp_Deeds_worth_of [none] (vaCons (vVar 2) (vaNil)))) (vSeq (vAsg 6 (vMeth 0 0 [119, 111, 114, 116, 104, 95, 111, 102] sp_Deeds_worth_of [none] (vaCons (vVar 4) (vaNil)))) (vSeq (vAsg 7 (vCall (sp_made) [none, none, none] (vaCons (vVar 3) (vaCons (vVar 5) (vaCons (vVar 6) (vaNil)))))) (vSeq (vDrop (vMut muAppend 0 (vpFd 0 0 [100, 111, 110, 101] (vpName 0)) (vaCons (vTup (vaCons (vC (.str [115, 117, 109])) (vaCons (vView (wMet 0 [110, 97, 109, 101, 95, 111, 102] sp_Deeds_name_of (wName 0) (wCons (wName 1) (wNil)))) (vaCons (vVar 5) (vaCons (vVar 3) (vaCons (vVar 6) (vaCons (vVar 7) (vaNil)))))))) (vaNil)))) (vSet 0 (vVar 7) (vpFd 0 0 [109, 101, 109, 111, 114, 121] (vpName 0)) (vVar 1)))))
def t_Deeds_name_of : VTS := vRet (vVar 1)
def t_Deeds_worth_of : VTS := vRet (vView (wCall (sp_worth) (wCons (wName 1) (wCons (wFld 0 [109, 101, 109, 111, 114, 121] (wName 0)) (wNil)))))
def t_Deeds_full : VTS := vRet (vView (wOp oGe (w2 (wOp sLen (wCons (wFld 0 [100, 111, 110, 101] (wName 0)) (wNil))) (wFld 0 [109, 111, 115, 116] (wName 0)))))
def t_Deeds_init : VTS := vSeq (vFld 0 0 [109, 101, 109, 111, 114, 121] (vOp sDict [none] (vaCons (vVar 1) (vaNil)))) (vSeq (vFld 0 0 [109, 111, 115, 116] (vVar 2)) (vFld 0 0 [100, 111, 110, 101] (vLst (vaNil))))
def t_made : VTS := vSeq (vIfS (vB (vOp sEq [none, none] (va2 (vVar 0) (vC (.str [43]))))) (vRet (vOp sAdd [none, none] (va2 (vVar 1) (vVar 2)))) (vSkip)) (vSeq (vIfS (vB (vOp sEq [none, none] (va2 (vVar 0) (vC (.str [45]))))) (vRet (vOp oSub [none, none] (va2 (vVar 1) (vVar 2)))) (vSkip)) (vSeq (vIfS (vB (vOp sEq [none, none] (va2 (vVar 0) (vC (.str [38]))))) (vRet (vOp oAnd [none, none] (va2 (vVar 1) (vVar 2)))) (vSkip)) (vSeq (vIfS (vB (vOp sEq [none, none] (va2 (vVar 0) (vC (.str [94]))))) (vRet (vOp oXor [none, none] (va2 (vVar 1) (vVar 2)))) (vSkip)) (vSeq (vIfS (vB (vOp sEq [none, none] (va2 (vVar 2) (vC (.int 0))))) (vRaise "ByNought") (vSkip)) (vSeq (vAsgT (vOp sDivmod [none, none] (vaCons (vVar 1) (vaCons (vVar 2) (vaNil)))) (vNames [3, 4])) (vSeq (vIfS (vB (vOp sEq [none, none] (va2 (vVar 0) (vC (.str [47]))))) (vRet (vVar 3)) (vSkip)) (vRet (vVar 4))))))))
def t_holds : VTS := vSeq (vIfS (vB (vOp sEq [none, none] (va2 (vVar 0) (vC (.str [60]))))) (vRet (vOp oLt [none, none] (va2 (vVar 1) (vVar 2)))) (vSkip)) (vRet (vOp sEq [none, none] (va2 (vVar 1) (vVar 2))))
def t_worth : VTS := vSeq (vIfS (vB (vOp sIsi [none, none] (vaCons (vVar 0) (vaCons (vC (.ty "str")) (vaNil))))) (vRet (vDGet2 (none) (vVar 1) (vVar 0) (vC (.int 0)))) (vSkip)) (vRet (vVar 0))
def t_place_behind : VTS := vSeq (vAsg 4 (vOp sIx [none, none] (va2 (vVar 0) (vVar 1)))) (vSeq (vIfS (vB (vOp sEq [none, none] (va2 (vOp sIx [none, none] (va2 (vVar 4) (vC (.int 1)))) (vC (.str [115, 117, 109]))))) (vSeq (vDrop (vMeth 3 0 [115, 117, 109, 95, 111, 102] sp_Deeds_sum_of [none, none, none, none] (vaCons (vOp sIx [none, none] (va2 (vVar 4) (vC (.int 2)))) (vaCons (vOp sIx [none, none] (va2 (vVar 4) (vC (.int 3)))) (vaCons (vOp sIx [none, none] (va2 (vVar 4) (vC (.int 4)))) (vaCons (vOp sIx [none, none] (va2 (vVar 4) (vC (.int 5)))) (vaNil))))))) (vRet (vOp sAdd [none, none] (va2 (vVar 1) (vC (.int 1)))))) (vSkip)) (vSeq (vIfS (vB (vMeth 3 0 [116, 101, 115, 116, 95, 111, 102] sp_Deeds_test_of [none, none, none] (vaCons (vOp sIx [none, none] (va2 (vVar 4) (vC (.int 2)))) (vaCons (vOp sIx [none, none] (va2 (vVar 4) (vC (.int 3)))) (vaCons (vOp sIx [none, none] (va2 (vVar 4) (vC (.int 4)))) (vaNil)))))) (vRet (vOp sIx [none, none] (va2 (vVar 2) (vOp sIx [none, none] (va2 (vVar 4) (vC (.int 5))))))) (vSkip)) (vRet (vOp sAdd [none, none] (va2 (vVar 1) (vC (.int 1)))))))
def lb_run0 : VTS := vSet 3 (vVar 4) (vpName 3) (vOpQ sIx (va2 (vVar 5) (vC (.int 0))))
def ly_run1 : VTS := vAsg 4 (vCall (sp_place_behind) [none, none, none, some 6] (vaCons (vVar 0) (vaCons (vVar 4) (vaCons (vFrz 3) (vaLate 6 (vaNil))))))
def lx_run1 : VTS := vRet (vMeth 6 0 [116, 111, 108, 100] sp_Deeds_told [none] (vaCons (vC (.str [102, 97, 117, 108, 116])) (vaNil)))
def lz_run1 : VTS := vAsg 7 (vC (.int 0))
def lb_run4 : VTS := vIfS (vB (vOp sEq [none, none] (va2 (vOp sIx [none, none] (va2 (vOp sIx [none, none] (va2 (vVar 0) (vVar 4))) (vC (.int 1)))) (vC (.str [106, 117, 109, 112]))))) (vSeq (vAsg 4 (vOp sIx [none, none] (va2 (vFrz 3) (vOp sIx [none, none] (va2 (vOp sIx [none, none] (va2 (vVar 0) (vVar 4))) (vC (.int 2))))))) (vSeq (vAug (fun i j => i + j) 7 (vC (.int 1))) (vIfS (vB (vOp oGt [none, none] (va2 (vVar 7) (vOp sLen [none] (vaCons (vVar 0) (vaNil)))))) (vRet (vMeth 6 0 [116, 111, 108, 100] sp_Deeds_told [none] (vaCons (vC (.str [111, 110])) (vaNil)))) (vSkip)))) (vIfS (vB (vMeth 6 0 [102, 117, 108, 108] sp_Deeds_full [] (vaNil))) (vRet (vMeth 6 0 [116, 111, 108, 100] sp_Deeds_told [none] (vaCons (vC (.str [111, 110])) (vaNil)))) (vTryE xt_ByNought ly_run1 lx_run1 lz_run1))
def t_run : VTS := vSeq (vAsg 3 (vC (.dK true [] []))) (vSeq (vFor (viEnum (vaCons (vVar 0) (vaNil))) (vNames [4, 5]) (lb_run0)) (vSeq (vAsg 6 (vNew 0 sp_Deeds_init [none, none] (vaCons (vVar 1) (vaCons (vVar 2) (vaNil))))) (vSeq (vAsg 4 (vC (.int 0))) (vSeq (vAsg 7 (vC (.int 0))) (vSeq (vWhile (vB (vOp sNe [none, none] (va2 (vOp sIx [none, none] (va2 (vOp sIx [none, none] (va2 (vVar 0) (vVar 4))) (vC (.int 1)))) (vC (.str [101, 110, 100]))))) (lb_run4)) (vRet (vMeth 6 0 [116, 111, 108, 100] sp_Deeds_told [none] (vaCons (vC (.str [101, 110, 100])) (vaNil)))))))))
def t_Lcell : VTS := vSeq (vIfS (vB (vOp oLt [none, none] (va2 (vVar 1) (vOp sLen [none] (vaCons (vVar 0) (vaNil)))))) (vRet (vOp sIx [none, none] (va2 (vVar 0) (vVar 1)))) (vSkip)) (vRet (vC (.int 0)))
def t_Lmixed : VTS := vSeq (vAsg 2 (vOp oMod [none, none] (va2 (vOp sAdd [none, none] (va2 (vOp sAdd [none, none] (va2 (vOp sMul [none, none] (va2 (vOp oMod [none, none] (va2 (vVar 0) (vC (.int 2147483647)))) (vC (.int 48271)))) (vOp sMul [none, none] (va2 (vOp sMul [none, none] (va2 (vC (.int 7919)) (vVar 1))) (vVar 1))))) (vC (.int 104729)))) (vC (.int 2147483647))))) (vRet (vOp oMod [none, none] (va2 (vOp sMul [none, none] (va2 (vVar 2) (vVar 2))) (vC (.int 2147483629)))))
def lb_Lnames0 : VTS := vSeq (vAsg 6 (vOp sIx [none, none] (va2 (vVar 3) (vOp oMod [none, none] (va2 (vOp sAdd [none, none] (va2 (vOp oDiv [none, none] (va2 (vVar 0) (vC (.int 64)))) (vOp sMul [none, none] (va2 (vC (.int 7)) (vVar 5))))) (vOp sLen [none] (vaCons (vVar 3) (vaNil)))))))) (vDrop (vMutN muAppend 4 (vaCons (vOp sAdd [none, none] (va2 (vOp sAdd [none, none] (va2 (vSl (none) (vC (.str [118, 55, 119, 56, 120, 57, 121, 122])) (vNoPart) (vPart (vVar 2))) (vVar 6))) (vSl (none) (vC (.str [118, 55, 119, 56, 120, 57, 121, 122])) (vPart (vOp sAdd [none, none] (va2 (vVar 2) (vC (.int 1))))) (vPart (vVar 1))))) (vaNil))))
def t_Lnames : VTS := vSeq (vAsg 1 (vOp sAdd [none, none] (va2 (vC (.int 1)) (vOp oMod [none, none] (va2 (vVar 0) (vC (.int 8))))))) (vSeq (vAsg 2 (vOp oMod [none, none] (va2 (vOp oDiv [none, none] (va2 (vVar 0) (vC (.int 8)))) (vVar 1)))) (vSeq (vAsg 3 (vC (.str [97, 98, 99, 100, 101, 102, 103, 104, 105, 106, 107, 108, 109, 110, 111, 112, 113, 114, 115, 116, 117, 118, 119, 120, 121, 122, 48, 49, 50, 51, 52, 53, 54, 55, 56, 57]))) (vSeq (vIfS (vB (vOp sEq [none, none] (va2 (vVar 2) (vC (.int 0))))) (vAsg 3 (vStill (vSl (none) (vVar 3) (vNoPart) (vPart (vC (.int 26)))))) (vSkip)) (vSeq (vAsg 4 (vLst (vaNil))) (vSeq (vFor (viR1 (vaCons (vC (.int 4)) (vaNil))) (vName 5) (lb_Lnames0)) (vRet (vMov 4)))))))
def t_Lgreat : VTS := vRet (vOp oSub [none, none] (va2 (vOp oMod [none, none] (va2 (vOp sMul [none, none] (va2 (vVar 0) (vOp oPow [none, none] (va2 (vC (.int 982451653)) (vC (.int 3)))))) (vOp sAdd [none, none] (va2 (vOp sMul [none, none] (va2 (vC (.int 2)) (vOp oPow [none, none] (va2 (vC (.int 10)) (vC (.int 18)))))) (vC (.int 1)))))) (vOp oPow [none, none] (va2 (vC (.int 10)) (vC (.int 18))))))
def t_Loperand : VTS := vSeq (vIfS (vB (vOp sEq [none, none] (va2 (vOp oMod [none, none] (va2 (vVar 0) (vC (.int 8)))) (vC (.int 0))))) (vRet (vCall (sp_Lgreat) [none] (vaCons (vOp sAdd [none, none] (va2 (vVar 1) (vVar 0))) (vaNil)))) (vSkip)) (vSeq (vIfS (vB (vOp oLt [none, none] (va2 (vOp oMod [none, none] (va2 (vVar 0) (vC (.int 8)))) (vC (.int 3))))) (vRet (vOp oSub [none, none] (va2 (vOp oMod [none, none] (va2 (vOp oDiv [none, none] (va2 (vVar 0) (vC (.int 8)))) (vC (.int 9)))) (vC (.int 3))))) (vSkip)) (vRet (vOp sIx [none, none] (va2 (vVar 2) (vOp oMod [none, none] (va2 (vOp oDiv [none, none] (va2 (vVar 0) (vC (.int 8)))) (vC (.int 4))))))))
def tb_Lrow5 : VTS  := vSeq (vIfS (vB (vOp oLt [none, none] (va2 (vOp oMod [none, none] (va2 (vVar 4) (vC (.int 16)))) (vC (.int 12))))) (vRet (vTup (vaCons (vOp sIx [none, none] (va2 (vVar 2) (vVar 1))) (vaCons (vC (.str [116, 101, 115, 116])) (vaCons (vVar 5) (vaCons (vOp sIx [none, none] (va2 (vLst (vaCons (vC (.str [60])) (vaCons (vC (.str [61])) (vaNil)))) (vOp oMod [none, none] (va2 (vOp oDiv [none, none] (va2 (vVar 4) (vC (.int 193)))) (vC (.int 2)))))) (vaCons (vVar 6) (vaCons (vVar 7) (vaNil))))))))) (vSkip)) (vSeq (vIfS (vB (vOp oLt [none, none] (va2 (vOp oMod [none, none] (va2 (vVar 4) (vC (.int 16)))) (vC (.int 15))))) (vRet (vTup (vaCons (vOp sIx [none, none] (va2 (vVar 2) (vVar 1))) (vaCons (vC (.str [106, 117, 109, 112])) (vaCons (vVar 7) (vaNil)))))) (vSkip)) (vRet (vTup (vaCons (vOp sIx [none, none] (va2 (vVar 2) (vVar 1))) (vaCons (vC (.str [101, 110, 100])) (vaNil))))))
def tb_Lrow4 : VTS  := vSeq (vIfS (vB (vOp oLt [none, none] (va2 (vOp oMod [none, none] (va2 (vVar 4) (vC (.int 16)))) (vC (.int 7))))) (vSeq (vAsg 8 (vOp sIx [none, none] (va2 (vLst (vaCons (vC (.str [43])) (vaCons (vC (.str [45])) (vaCons (vC (.str [47])) (vaCons (vC (.str [114, 101, 115, 116])) (vaCons (vC (.str [38])) (vaCons (vC (.str [94])) (vaNil)))))))) (vOp oMod [none, none] (va2 (vOp oDiv [none, none] (va2 (vVar 4) (vC (.int 97)))) (vC (.int 6))))))) (vRet (vTup (vaCons (vOp sIx [none, none] (va2 (vVar 2) (vVar 1))) (vaCons (vC (.str [115, 117, 109])) (vaCons (vOp sIx [none, none] (va2 (vVar 3) (vOp oMod [none, none] (va2 (vOp oDiv [none, none] (va2 (vVar 4) (vC (.int 389)))) (vC (.int 4)))))) (vaCons (vVar 5) (vaCons (vVar 8) (vaCons (vVar 6) (vaNil)))))))))) (vSkip)) (tb_Lrow5)
def tb_Lrow3 : VTS  := vSeq (vAsg 7 (vOp sIx [none, none] (va2 (vVar 2) (vOp oMod [none, none] (va2 (vOp oDiv [none, none] (va2 (vVar 4) (vC (.int 65536)))) (vOp sLen [none] (vaCons (vVar 2) (vaNil)))))))) (tb_Lrow4)
def t_Lrow : VTS := vSeq (vAsg 4 (vCall (sp_Lmixed) [none, none] (vaCons (vVar 0) (vaCons (vVar 1) (vaNil))))) (vSeq (vAsg 5 (vCall (sp_Loperand) [none, none, none] (vaCons (vOp oDiv [none, none] (va2 (vVar 4) (vC (.int 16)))) (vaCons (vVar 0) (vaCons (vVar 3) (vaNil)))))) (vSeq (vAsg 6 (vCall (sp_Loperand) [none, none, none] (vaCons (vOp oDiv [none, none] (va2 (vVar 4) (vC (.int 1024)))) (vaCons (vOp oDiv [none, none] (va2 (vVar 0) (vC (.int 3)))) (vaCons (vVar 3) (vaNil)))))) (tb_Lrow3)))
def lb_Lrows0 : VTS := vSeq (vDrop (vMutN muAppend 3 (vaCons (vVar 4) (vaNil)))) (vAsg 4 (vOp sAdd [none, none] (va2 (vOp sAdd [none, none] (va2 (vVar 4) (vC (.int 1)))) (vOp oMod [none, none] (va2 (vCall (sp_Lmixed) [none, none] (vaCons (vVar 1) (vaCons (vVar 5) (vaNil)))) (vOp sIx [none, none] (va2 (vLst (vaCons (vC (.int 1)) (vaCons (vC (.int 10)) (vaCons (vC (.int 97)) (vaNil))))) (vOp oMod [none, none] (va2 (vOp oDiv [none, none] (va2 (vVar 1) (vC (.int 1200)))) (vC (.int 3)))))))))))
def le_Lrows1 : VTE := vCall (sp_Lrow) [none, none, none, none] (vaCons (vOp sIx [none, none] (va2 (vVar 0) (vVar 5))) (vaCons (vVar 5) (vaCons (vFrz 3) (vaCons (vVar 2) (vaNil)))))
def tb_Lrows3 : VTS  := vSeq (vAsg 6 (vLc [5] (viR1 (vaCons (vOp sLen [none] (vaCons (vVar 0) (vaNil))) (vaNil))) (vName 5) (vYes) (le_Lrows1))) (vSeq (vIfS (vB (vOp sEq [none, none] (va2 (vOp oMod [none, none] (va2 (vOp oDiv [none, none] (va2 (vVar 1) (vC (.int 3600)))) (vC (.int 3)))) (vC (.int 0))))) (vDrop (vMutN muAppend 6 (vaCons (vTup (vaCons (vOp sIx [none, none] (va2 (vFrz 3) (vOp oNeg [none] (va1 (vC (.int 1)))))) (vaCons (vC (.str [106, 117, 109, 112])) (vaCons (vView (wOp sIx (w2 (wName 3) (wOp oMod (w2 (wOp oDiv (w2 (wName 1) (wC (.int 10800)))) (wOp sLen (wCons (wName 3) (wNil)))))))) (vaNil))))) (vaNil)))) (vDrop (vMutN muAppend 6 (vaCons (vTup (vaCons (vOp sIx [none, none] (va2 (vFrz 3) (vOp oNeg [none] (va1 (vC (.int 1)))))) (vaCons (vC (.str [101, 110, 100])) (vaNil)))) (vaNil))))) (vRet (vMov 6)))
def t_Lrows : VTS := vSeq (vAsg 3 (vLst (vaNil))) (vSeq (vAsg 4 (vOp sAdd [none, none] (va2 (vC (.int 1)) (vOp oMod [none, none] (va2 (vOp oDiv [none, none] (va2 (vVar 1) (vC (.int 4)))) (vC (.int 300))))))) (vSeq (vFor (viR1 (vaCons (vOp sAdd [none, none] (va2 (vOp sLen [none] (vaCons (vVar 0) (vaNil))) (vC (.int 1)))) (vaNil))) (vName 5) (lb_Lrows0)) (tb_Lrows3)))
def lb_Lmemory0 : VTS := vSeq (vAsg 4 (vCall (sp_Lmixed) [none, none] (vaCons (vVar 0) (vaCons (vVar 3) (vaNil))))) (vSeq (vIfS (vB (vOp sEq [none, none] (va2 (vOp oMod [none, none] (va2 (vVar 4) (vC (.int 4)))) (vC (.int 0))))) (vSet 2 (vCall (sp_Lgreat) [none] (vaCons (vOp sAdd [none, none] (va2 (vVar 0) (vVar 4))) (vaNil))) (vpName 2) (vOpQ sIx (va2 (vVar 1) (vVar 3)))) (vSkip)) (vIfS (vB (vOp oGt [none, none] (va2 (vOp oMod [none, none] (va2 (vVar 4) (vC (.int 4)))) (vC (.int 1))))) (vSet 2 (vOp oSub [none, none] (va2 (vOp oMod [none, none] (va2 (vOp oDiv [none, none] (va2 (vVar 4) (vC (.int 4)))) (vC (.int 19)))) (vC (.int 9)))) (vpName 2) (vOpQ sIx (va2 (vVar 1) (vVar 3)))) (vSkip)))
def t_Lmemory : VTS := vSeq (vAsg 2 (vC (.dK true [] []))) (vSeq (vFor (viR1 (vaCons (vC (.int 4)) (vaNil))) (vName 3) (lb_Lmemory0)) (vRet (vMov 2)))
def lb_Lalike0 (n : Nat) : VTS := vIfS (vNot (vB (vCall ((sp_Lalike n)) [none, none] (vaCons (vOp sIx [none, none] (va2 (vVar 0) (vVar 2))) (vaCons (vOp sIx [none, none] (va2 (vVar 1) (vVar 2))) (vaNil)))))) (vRet (vC (.bl false))) (vSkip)
def t_Lalike (n : Nat) : VTS := vSeq (vIfS (vB (vOp sIsi [none, none] (vaCons (vVar 1) (vaCons (vC (.ty "bool")) (vaNil))))) (vRet (vAndV (vOp sIsi [none, none] (vaCons (vVar 0) (vaCons (vC (.ty "bool")) (vaNil)))) (vOp sEq [none, none] (va2 (vVar 0) (vVar 1))))) (vSkip)) (vSeq (vIfS (vB (vOp sIsi [none, none] (vaCons (vVar 1) (vaCons (vC (.ty "int")) (vaNil))))) (vRet (vAndV (vOp sIsi [none, none] (vaCons (vVar 0) (vaCons (vC (.ty "int")) (vaNil)))) (vAndV (vNotV (vOp sIsi [none, none] (vaCons (vVar 0) (vaCons (vC (.ty "bool")) (vaNil))))) (vOp sEq [none, none] (va2 (vVar 0) (vVar 1)))))) (vSkip)) (vSeq (vIfS (vB (vOp sIsi [none, none] (vaCons (vVar 1) (vaCons (vC (.ty "str")) (vaNil))))) (vRet (vAndV (vOp sIsi [none, none] (vaCons (vVar 0) (vaCons (vC (.ty "str")) (vaNil)))) (vOp sEq [none, none] (va2 (vVar 0) (vVar 1))))) (vSkip)) (vSeq (vIfS (vOr (vAnd (vB (vOp sIsi [none, none] (vaCons (vVar 1) (vaCons (vC (.ty "tuple")) (vaNil))))) (vNot (vB (vOp sIsi [none, none] (vaCons (vVar 0) (vaCons (vC (.ty "tuple")) (vaNil))))))) (vAnd (vB (vOp sIsi [none, none] (vaCons (vVar 1) (vaCons (vC (.ty "list")) (vaNil))))) (vNot (vB (vOp sIsi [none, none] (vaCons (vVar 0) (vaCons (vC (.ty "list")) (vaNil)))))))) (vRet (vC (.bl false))) (vSkip)) (vSeq (vIfS (vB (vOp sNe [none, none] (va2 (vOp sLen [none] (vaCons (vVar 0) (vaNil))) (vOp sLen [none] (vaCons (vVar 1) (vaNil)))))) (vRet (vC (.bl false))) (vSkip)) (vSeq (vFor (viR1 (vaCons (vOp sLen [none] (vaCons (vVar 1) (vaNil))) (vaNil))) (vName 2) ((lb_Lalike0 n))) (vRet (vC (.bl true))))))))
def lb_Lsame_memory0 : VTS := vIfS (vOr (vB (vOp (sIn true) [none, none] (va2 (vVar 2) (vVar 0)))) (vNot (vB (vCall ((sp_Lalike 8)) [none, none] (vaCons (vOp sIx [none, none] (va2 (vVar 0) (vVar 2))) (vaCons (vOp sIx [none, none] (va2 (vVar 1) (vVar 2))) (vaNil))))))) (vRet (vC (.bl false))) (vSkip)
def t_Lsame_memory : VTS := vSeq (vIfS (vOr (vNot (vB (vOp sIsi [none, none] (vaCons (vVar 0) (vaCons (vC (.ty "dict")) (vaNil)))))) (vB (vOp sNe [none, none] (va2 (vOp sLen [none] (vaCons (vVar 0) (vaNil))) (vOp sLen [none] (vaCons (vVar 1) (vaNil))))))) (vRet (vC (.bl false))) (vSkip)) (vSeq (vForKeys 1 (vName 2) (lb_Lsame_memory0)) (vRet (vC (.bl true))))
def t_Lworth : VTS := vSeq (vIfS (vB (vOp sIsi [none, none] (vaCons (vVar 0) (vaCons (vC (.ty "str")) (vaNil))))) (vRet (vDGet2 (none) (vVar 1) (vVar 0) (vC (.int 0)))) (vSkip)) (vRet (vVar 0))
def t_Lsum : VTS := vSeq (vIfS (vB (vOp sEq [none, none] (va2 (vVar 0) (vC (.str [43]))))) (vRet (vOp sAdd [none, none] (va2 (vVar 1) (vVar 2)))) (vSkip)) (vSeq (vIfS (vB (vOp sEq [none, none] (va2 (vVar 0) (vC (.str [45]))))) (vRet (vOp oSub [none, none] (va2 (vVar 1) (vVar 2)))) (vSkip)) (vSeq (vIfS (vB (vOp sEq [none, none] (va2 (vVar 0) (vC (.str [47]))))) (vRet (vOp oDiv [none, none] (va2 (vVar 1) (vVar 2)))) (vSkip)) (vSeq (vIfS (vB (vOp sEq [none, none] (va2 (vVar 0) (vC (.str [114, 101, 115, 116]))))) (vRet (vOp oMod [none, none] (va2 (vVar 1) (vVar 2)))) (vSkip)) (vSeq (vIfS (vB (vOp sEq [none, none] (va2 (vVar 0) (vC (.str [38]))))) (vRet (vOp oAnd [none, none] (va2 (vVar 1) (vVar 2)))) (vSkip)) (vRet (vOp oXor [none, none] (va2 (vVar 1) (vVar 2))))))))
def t_Ldeed : VTS := vSeq (vIfS (vB (vOp sEq [none, none] (va2 (vOp sIx [none, none] (va2 (vVar 0) (vC (.int 1)))) (vC (.str [116, 101, 115, 116]))))) (vSeq (vAsg 2 (vCall (sp_Lworth) [none, none] (vaCons (vOp sIx [none, none] (va2 (vVar 0) (vC (.int 2)))) (vaCons (vVar 1) (vaNil))))) (vSeq (vAsg 3 (vCall (sp_Lworth) [none, none] (vaCons (vOp sIx [none, none] (va2 (vVar 0) (vC (.int 4)))) (vaCons (vVar 1) (vaNil))))) (vRet (vTup (vaCons (vC (.str [116, 101, 115, 116])) (vaCons (vVar 2) (vaCons (vOp sIx [none, none] (va2 (vVar 0) (vC (.int 3)))) (vaCons (vVar 3) (vaCons (vOrV (vAndV (vOp sEq [none, none] (va2 (vOp sIx [none, none] (va2 (vVar 0) (vC (.int 3)))) (vC (.str [60])))) (vOp oLt [none, none] (va2 (vVar 2) (vVar 3)))) (vAndV (vOp sEq [none, none] (va2 (vOp sIx [none, none] (va2 (vVar 0) (vC (.int 3)))) (vC (.str [61])))) (vOp sEq [none, none] (va2 (vVar 2) (vVar 3))))) (vaNil)))))))))) (vSkip)) (vSeq (vAsg 2 (vCall (sp_Lworth) [none, none] (vaCons (vOp sIx [none, none] (va2 (vVar 0) (vC (.int 3)))) (vaCons (vVar 1) (vaNil))))) (vSeq (vAsg 3 (vCall (sp_Lworth) [none, none] (vaCons (vOp sIx [none, none] (va2 (vVar 0) (vC (.int 5)))) (vaCons (vVar 1) (vaNil))))) (vSeq (vIfS (vAnd (vB (vOp sEq [none, none] (va2 (vVar 3) (vC (.int 0))))) (vB (vOp (sIn false) [none, none] (va2 (vOp sIx [none, none] (va2 (vVar 0) (vC (.int 4)))) (vLst (vaCons (vC (.str [47])) (vaCons (vC (.str [114, 101, 115, 116])) (vaNil)))))))) (vRet (vC .non)) (vSkip)) (vRet (vTup (vaCons (vC (.str [115, 117, 109])) (vaCons (vOp sIx [none, none] (va2 (vVar 0) (vC (.int 2)))) (vaCons (vVar 2) (vaCons (vOp sIx [none, none] (va2 (vVar 0) (vC (.int 4)))) (vaCons (vVar 3) (vaCons (vCall (sp_Lsum) [none, none, none] (vaCons (vOp sIx [none, none] (va2 (vVar 0) (vC (.int 4)))) (vaCons (vVar 2) (vaCons (vVar 3) (vaNil))))) (vaNil))))))))))))
def lb_Lrun0 : VTS := vSet 3 (vVar 4) (vpName 3) (vOpQ sIx (va2 (vOpQ sIx (va2 (vVar 0) (vVar 4))) (vC (.int 0))))
def lb_Lrun1 : VTS := vSeq (vAsg 8 (vOp sIx [none, none] (va2 (vVar 0) (vVar 6)))) (vSeq (vAsg 7 (vOp sAdd [none, none] (va2 (vVar 7) (vC (.int 1))))) (vSeq (vIfS (vB (vOp sEq [none, none] (va2 (vOp sIx [none, none] (va2 (vVar 8) (vC (.int 1)))) (vC (.str [101, 110, 100]))))) (vRet (vTup (vaLate 5 (vaCons (vC (.str [101, 110, 100])) (vaLate 1 (vaNil)))))) (vSkip)) (vSeq (vIfS (vB (vOp sEq [none, none] (va2 (vOp sIx [none, none] (va2 (vVar 8) (vC (.int 1)))) (vC (.str [106, 117, 109, 112]))))) (vSeq (vAsg 6 (vOp sIx [none, none] (va2 (vFrz 3) (vOp sIx [none, none] (va2 (vVar 8) (vC (.int 2))))))) (vCnt)) (vSkip)) (vSeq (vIfS (vViewT (wOp oGe (w2 (wOp sLen (wCons (wName 5) (wNil))) (wName 2)))) (vRet (vTup (vaLate 5 (vaCons (vC (.str [111, 110])) (vaLate 1 (vaNil)))))) (vSkip)) (vSeq (vAsg 7 (vC (.int 0))) (vSeq (vAsg 9 (vLend (sp_Ldeed) (wCons (wName 8) (wCons (wName 1) (wNil))))) (vSeq (vIfS (vB (vOp sIsN [none, none] (va2 (vVar 9) (vC .non)))) (vRet (vTup (vaLate 5 (vaCons (vC (.str [102, 97, 117, 108, 116])) (vaLate 1 (vaNil)))))) (vSkip)) (vSeq (vDrop (vMutN muAppend 5 (vaCons (vVar 9) (vaNil)))) (vSeq (vAsg 6 (vOp sAdd [none, none] (va2 (vVar 6) (vC (.int 1))))) (vIfS (vB (vOp sEq [none, none] (va2 (vOp sIx [none, none] (va2 (vVar 8) (vC (.int 1)))) (vC (.str [115, 117, 109]))))) (vSet 1 (vOp sIx [none, none] (va2 (vVar 9) (vC (.int 5)))) (vpName 1) (vOpQ sIx (va2 (vVar 8) (vC (.int 2))))) (vIfS (vB (vOp sIx [none, none] (va2 (vVar 9) (vC (.int 4))))) (vAsg 6 (vOp sIx [none, none] (va2 (vFrz 3) (vOp sIx [none, none] (va2 (vVar 8) (vC (.int 5))))))) (vSkip))))))))))))
def tb_Lrun6 : VTS  := vSeq (vWhile (vB (vOp oLe [none, none] (va2 (vVar 7) (vOp sLen [none] (vaCons (vVar 0) (vaNil)))))) (lb_Lrun1)) (vRet (vTup (vaLate 5 (vaCons (vC (.str [111, 110])) (vaLate 1 (vaNil))))))
def tb_Lrun5 : VTS  := vSeq (vAsg 7 (vC (.int 0))) (tb_Lrun6)
def tb_Lrun4 : VTS  := vSeq (vAsg 6 (vC (.int 0))) (tb_Lrun5)
def tb_Lrun3 : VTS  := vSeq (vAsg 5 (vLst (vaNil))) (tb_Lrun4)
def t_Lrun : VTS := vSeq (vAsg 3 (vC (.dK true [] []))) (vSeq (vFor (viR1 (vaCons (vOp sLen [none] (vaCons (vVar 0) (vaNil))) (vaNil))) (vName 4) (lb_Lrun0)) (vSeq (vAsg 1 (vOp sDict [some 1] (vaLate 1 (vaNil)))) (tb_Lrun3)))
def t_Lfits : VTS := vSeq (vIfS (vOr (vNot (vB (vOp sIsi [none, none] (vaCons (vVar 0) (vaCons (vC (.ty "tuple")) (vaNil)))))) (vB (vOp sNe [none, none] (va2 (vOp sLen [none] (vaCons (vVar 0) (vaNil))) (vC (.int 3)))))) (vRet (vC (.bl false))) (vSkip)) (vSeq (vIfS (vOr (vNot (vB (vCall ((sp_Lalike 8)) [none, none] (vaCons (vOp sIx [none, none] (va2 (vVar 0) (vC (.int 0)))) (vaCons (vOp sIx [none, none] (va2 (vVar 1) (vC (.int 0)))) (vaNil)))))) (vNot (vB (vCall ((sp_Lalike 8)) [none, none] (vaCons (vOp sIx [none, none] (va2 (vVar 0) (vC (.int 1)))) (vaCons (vOp sIx [none, none] (va2 (vVar 1) (vC (.int 1)))) (vaNil))))))) (vRet (vC (.bl false))) (vSkip)) (vRet (vCall (sp_Lsame_memory) [none, none] (vaCons (vOp sIx [none, none] (va2 (vVar 0) (vC (.int 2)))) (vaCons (vOp sIx [none, none] (va2 (vVar 1) (vC (.int 2)))) (vaNil))))))
def tb_law13 : VTS  := vRet (vAndV (vCall (sp_Lfits) [none, none] (vaCons (vStill (vCall (sp_run) [none, none, none] (vaCons (vVar 3) (vaCons (vVar 4) (vaCons (vVar 5) (vaNil)))))) (vaCons (vVar 6) (vaNil)))) (vCall (sp_Lfits) [none, none] (vaCons (vVar 8) (vaCons (vVar 6) (vaNil)))))
def tb_law12 : VTS  := vSeq (vIfS (vNot (vB (vCall (sp_Lfits) [none, none] (vaCons (vVar 9) (vaCons (vStill (vTup (vaCons (vLst (vaCons (vTup (vaCons (vC (.str [115, 117, 109])) (vaCons (vOp sIx [none, none] (va2 (vVar 2) (vC (.int 0)))) (vaCons (vC (.int 5)) (vaCons (vC (.str [43])) (vaCons (vC (.int 4)) (vaCons (vC (.int 9)) (vaNil)))))))) (vaNil))) (vaCons (vC (.str [101, 110, 100])) (vaCons (vDisp (vdCons (vOp sIx [none, none] (va2 (vVar 2) (vC (.int 1)))) (vC (.int 4)) (vdCons (vOp sIx [none, none] (va2 (vVar 2) (vC (.int 0)))) (vC (.int 9)) (vdNil)))) (vaNil)))))) (vaNil)))))) (vRet (vC (.bl false))) (vSkip)) (tb_law13)
def tb_law11 : VTS  := vSeq (vAsg 9 (vStill (vCall (sp_run) [none, none, none] (vaCons (vStill (vLst (vaCons (vTup (vaCons (vC (.int 7)) (vaCons (vC (.str [115, 117, 109])) (vaCons (vOp sIx [none, none] (va2 (vVar 2) (vC (.int 0)))) (vaCons (vC (.int 5)) (vaCons (vC (.str [43])) (vaCons (vOp sIx [none, none] (va2 (vVar 2) (vC (.int 1)))) (vaNil)))))))) (vaCons (vTup (vaCons (vC (.int 9)) (vaCons (vC (.str [101, 110, 100])) (vaNil)))) (vaNil))))) (vaCons (vStill (vDisp (vdCons (vOp sIx [none, none] (va2 (vVar 2) (vC (.int 1)))) (vC (.int 4)) (vdNil)))) (vaCons (vC (.int 3)) (vaNil))))))) (tb_law12)
def tb_law10 : VTS  := vSeq (vDrop (vClrD 7 (vpIx 7 (vpName 7) (vC (.int 1))))) (tb_law11)
def tb_law9 : VTS  := vSeq (vDrop (vMut muClear 7 (vpIx 7 (vpName 7) (vC (.int 0))) vaNil)) (tb_law10)
def tb_law8 : VTS  := vSeq (vIfS (vOr (vNot (vB (vCall (sp_Lfits) [none, none] (vaCons (vVar 8) (vaCons (vVar 6) (vaNil)))))) (vOr (vNot (vViewT (wCall ((sp_Lalike 8)) (wCons (wOp sIx (w2 (wName 7) (wC (.int 0)))) (wCons (wName 3) (wNil)))))) (vNot (vViewT (wCall (sp_Lsame_memory) (wCons (wOp sIx (w2 (wName 7) (wC (.int 1)))) (wCons (wName 4) (wNil)))))))) (vRet (vC (.bl false))) (vSkip)) (tb_law9)
def tb_law7 : VTS  := vSeq (vAsg 8 (vStill (vLend (sp_run) (wCons (wOp sIx (w2 (wName 7) (wC (.int 0)))) (wCons (wOp sIx (w2 (wName 7) (wC (.int 1)))) (wCons (wName 5) (wNil))))))) (tb_law8)
def tb_law6 : VTS  := vSeq (vAsg 7 (vLst (vaCons (vOp sList [none] (vaCons (vVar 3) (vaNil))) (vaCons (vOp sDict [none] (vaCons (vVar 4) (vaNil))) (vaNil))))) (tb_law7)
def tb_law5 : VTS  := vSeq (vAsg 6 (vStill (vCall (sp_Lrun) [none, none, none] (vaCons (vVar 3) (vaCons (vVar 4) (vaCons (vVar 5) (vaNil))))))) (tb_law6)
def tb_law4 : VTS  := vSeq (vAsg 5 (vOp oMod [none, none] (va2 (vCall (sp_Lmixed) [none, none] (vaCons (vCall (sp_Lcell) [none, none] (vaCons (vVar 0) (vaCons (vC (.int 2)) (vaNil)))) (vaCons (vC (.int 2)) (vaNil)))) (vC (.int 120))))) (tb_law5)
def tb_law3 : VTS  := vSeq (vAsg 4 (vStill (vCall (sp_Lmemory) [none, none] (vaCons (vCall (sp_Lcell) [none, none] (vaCons (vVar 0) (vaCons (vC (.int 1)) (vaNil)))) (vaCons (vVar 2) (vaNil)))))) (tb_law4)
def tb_law2 : VTS  := vSeq (vAsg 3 (vStill (vCall (sp_Lrows) [none, none, none] (vaCons (vStill (vSl (none) (vVar 0) (vPart (vC (.int 3))) (vPart (vC (.int 63))))) (vaCons (vVar 1) (vaCons (vVar 2) (vaNil))))))) (tb_law3)
def tb_law1 : VTS  := vSeq (vAsg 2 (vStill (vCall (sp_Lnames) [none] (vaCons (vCall (sp_Lmixed) [none, none] (vaCons (vCall (sp_Lcell) [none, none] (vaCons (vVar 0) (vaCons (vC (.int 1)) (vaNil)))) (vaCons (vC (.int 1)) (vaNil)))) (vaNil))))) (tb_law2)
def t_law : VTS := vSeq (vAsg 1 (vCall (sp_Lcell) [none, none] (vaCons (vVar 0) (vaCons (vC (.int 0)) (vaNil))))) (tb_law1)
end Pk07
namespace Pk07
open PySem PySem.Spec PyProof.Rows L2 VL
local macro_rules
  | `(tactic| simp! only [$ls,*] $[$loc:location]?) => `(tactic| simp (maxSteps := 4000000) only [startE, List.map_cons, List.map_nil, List.length_cons, List.length_nil, List.replicate, List.cons_append, List.nil_append, Nat.reduceAdd, Nat.reduceSub, Nat.zero_add,
  vSeq, vIfS, vRet, vRetN, vAsg, vAsgT, vName, vVar, vMov, vFrz, vC, va1, va2, vaCons, vaNil, vaLate, vOp, vOpQ, vB, vAnd, vOr, vNot, vAndV, vOrV, vNotV, vIf, vTup, vLst, vStill, vSkip, vDrop, vBrk, vCnt, vCall, vFor, viR1, viR2, viLst, viTup, viStr, viEnum, viZip, viRev, vSl, vNoPart, vPart, vDGet2, vSet, vAt, vpName, vpIx, vMutN, vMut,
  restore, List.getElem?_cons_zero, List.getElem?_cons_succ, Option.some.injEq, exists_eq_left', isFz, isFzL, frz, frzL, List.set_cons_zero, List.set_cons_succ, e_sI2, e_sI2c, e_neg, e_addI, e_addS, e_addT, e_addL, e_mulI, e_divmod, e_eq, e_ne, eqOk_i, eqOk_s, eqOk_b, eqOk_si, eqOk_is, deq_i, deq_s, deq_b, deq_si, deq_is,
  e_isN, e_notN, e_isi, e_lenS, e_lenL, e_lenT, e_lenK, e_lenDT, e_ix, ixD_l, ixD_t, e_in, e_min, e_max, e_list, e_tuple, e_dict, e_rev, e_dget2, e_eqD, e_slS, e_slL, e_slT, isDct_K, isDct_T, tyNm, D.bl.injEq, D.int.injEq, D.str.injEq, true_and, and_true, decide_eq_true_eq, finalL, Nat.reduceLT, Nat.reduceLeDiff, if_true, Bool.and_self, and_self, pmod_lit, pdiv_lit, cml_lit_r, cml_lit_l, cpow_lit, cdv_lit, Int.reduceNe, Int.reduceEq, Int.reduceToNat, Int.reducePow, Int.reduceMul, Int.reduceAdd, Int.reduceSub, Int.reduceNeg, Int.reduceLT, Int.reduceLE, Nat.reduceLT, Nat.reduceLeDiff, Nat.reducePow, Nat.reduceEqDiff, ne_eq, not_false_eq_true, eq_self, reduceCtorEq, false_and, and_false, if_false, Bool.not_true, Bool.not_false, Bool.true_eq_false, Bool.false_eq_true, List.cons.injEq, e_app, lst_inj, exists_const, ixN_lit, Option.bind_some, getP_nilE, setP_nilE, exists_and_left, exists_eq', isT_nonetype_int, isT_nonetype_bool, isT_nonetype_str, isT_nonetype_list, isT_nonetype_tuple, isT_nonetype_dict, isT_int_int, isT_int_bool, isT_int_str, isT_int_list, isT_int_tuple, isT_int_dict, isT_bool_int, isT_bool_bool, isT_bool_str, isT_bool_list, isT_bool_tuple, isT_bool_dict, isT_str_int, isT_str_bool, isT_str_str, isT_str_list, isT_str_tuple, isT_str_dict, isT_list_int, isT_list_bool, isT_list_str, isT_list_list, isT_list_tuple, isT_list_dict, isT_tuple_int, isT_tuple_bool, isT_tuple_str, isT_tuple_list, isT_tuple_tuple, isT_tuple_dict, isT_dict_int, isT_dict_bool, isT_dict_str, isT_dict_list, isT_dict_tuple, isT_dict_dict, inT_int, inT_bool, inT_str, inT_list, inT_tuple, inT_dict, wName, wC, w1, w2, wNil, wCons, wOp, wCall, wTup, wLst, vView, vViewT, wMeth, flatD, tyOk_L, e_index, e_any, e_all, vAug, vForO, e_pop, names1, names2, names3, Bool.true_and, isFzL_nds, natsD_fz, isFz_nd, frz_nd, natsD_frz, frzL_nds, opD_fz, natsD_len, cutL_take, cutL_drop, List.take_succ_cons, List.take_zero, List.drop_succ_cons, List.drop_zero, frz_op, vLc, pull, forgetE, vYes, VL.isNon, D.tup.injEq, seqD_l, seqD_t, listD_l, listD_t, frz_rows, rowsF_fz, rowsD_len, rowsF_len, deq_ll, frz_rowsF, frzL_len, List.length_map, eqOk_n0, eqOk_nn, deqL_n0, deqL_nn, vDisp1, vDisp, vdCons, vdNil, rws_fz, rws_frz, mm_fz, mm_frz, deds_fz, deds_frz, strs_fz, strs_frz, isDct_mm, plc_frz, vLend, slice_script, frz_ints, new_told, $ls,*] $[$loc]?)
theorem rd_Deeds_told : Rd 2 [true, true] 2 sp_Deeds_told t_Deeds_told := by
  rintro ds Q Ex hl ⟨⟨d, w⟩, rfl, _, q⟩
  unfold t_Deeds_told
  simp! only [vListF, vDictF]
  exact ⟨_, _, rfl, 2, rfl, _, rfl, deds_fz _, _, _, rfl, 0, rfl, _, _, rfl, mm_fzL _, q⟩
theorem rd_Deeds_test_of : Rd 4 [true, true, true, true] 7 sp_Deeds_test_of t_Deeds_test_of := by
  rintro ds Q Ex hl ⟨⟨d, a, s, b⟩, rfl, hd, q⟩
  have hd : d.done.length < 1000000 := hd
  unfold t_Deeds_test_of
  simp! only [vMeth, opD_fz]
  refine ⟨⟨_, _, rfl, rfl⟩, c_Deeds_worth_of ?_⟩
  simp! only [vMeth, opD_fz]
  refine ⟨⟨_, _, rfl, rfl⟩, c_Deeds_worth_of ?_⟩
  simp! only [vMeth, opD_fz, c_holds]
  refine ⟨⟨_, rfl⟩, _, _, _, 2, rfl, rfl, rfl, (by show 2 < 3; decide), _, rfl, by simpa using hd, ?_⟩
  have q : Q (.bl (holdsV s (worthM d.mem a) (worthM d.mem b))) [ddsD true ⟨d.mem, d.most, d.done ++ [.test (worthM d.mem a) s (worthM d.mem b) (holdsV s (worthM d.mem a) (worthM d.mem b))]⟩, opD a, .str s, opD b] := q
  simp only [ddsD, List.map_append, List.map_cons, List.map_nil] at q
  exact q
theorem rd_Deeds_sum_of : Rd 5 [true, true, true, true, true] 8 sp_Deeds_sum_of t_Deeds_sum_of := by
  rintro ds Q Ex hl ⟨⟨d, x, a, s, b⟩, rfl, ⟨hs, hm, hd⟩, q⟩
  have hs : Sm (worthM d.mem b) := hs
  have hm : d.mem.length < 1000000 := hm
  have hd : d.done.length < 1000000 := hd
  have q : match madeV s (worthM d.mem a) (worthM d.mem b) with
    | some v => Q .non [ddsD true ⟨putM d.mem x v, d.most, d.done ++ [.sum x (worthM d.mem a) s (worthM d.mem b) v]⟩, .str x, opD a, .str s, opD b]
    | none => Ex (.type "ByNought") .non [ddsD true d, .str x, opD a, .str s, opD b] := q
  show t_Deeds_sum_of _ (startE 8 [ddsD true d, .str x, opD a, .str s, opD b])
  unfold SumA.args
  unfold t_Deeds_sum_of
  simp! only [vMeth, opD_fz]
  refine ⟨⟨_, _, rfl, rfl⟩, c_Deeds_worth_of ?_⟩
  simp! only [vMeth, opD_fz]
  refine ⟨⟨_, _, rfl, rfl⟩, c_Deeds_worth_of ?_⟩
  simp! only [vMeth, opD_fz]
  refine c_made hs ?_
  cases e : madeV s (worthM d.mem a) (worthM d.mem b) with
  | none =>
    rw [e] at q
    exact ⟨rfl, by show 5 ≤ 8; decide, q⟩
  | some v =>
    rw [e] at q
    refine ⟨rfl, ?_⟩
    simp! only [vMeth, opD_fz]
    refine ⟨⟨_, rfl⟩, _, _, _, 2, rfl, rfl, rfl, (by show 2 < 3; decide), _, rfl, ?_⟩
    refine ⟨_, rfl, ?_⟩
    rw [dds_frz]
    refine ⟨⟨_, _, rfl, rfl⟩, _, rfl, c_Deeds_name_of ⟨rfl, by simpa using hd, ?_⟩⟩
    refine ⟨⟨_, rfl⟩, _, _, _, 0, rfl, rfl, rfl, (by show 0 < 3; decide), _, rfl, _, put_mm hm, ?_⟩
    simp only [ddsD, List.map_append, List.map_cons, List.map_nil] at q
    exact q
theorem rd_Deeds_name_of : Rd 2 [true, true] 2 sp_Deeds_name_of t_Deeds_name_of := by
  rintro ds Q Ex hl ⟨⟨m, d, x⟩, rfl, _, q⟩
  unfold t_Deeds_name_of
  simp! only []
  exact q
theorem rd_Deeds_worth_of : Rd 2 [true, true] 2 sp_Deeds_worth_of t_Deeds_worth_of := by
  rintro ds Q Ex hl ⟨⟨d, a⟩, rfl, _, q⟩
  unfold t_Deeds_worth_of
  simp! only [wFld, dds_frz, opD_fz]
  refine ⟨_, _, rfl, 0, rfl, _, rfl, c_worth ⟨rfl, q⟩⟩
theorem rd_Deeds_full : Rd 1 [true] 1 sp_Deeds_full t_Deeds_full := by
  rintro ds Q Ex hl ⟨d, rfl, _, q⟩
  unfold t_Deeds_full
  simp! only [wFld, dds_frz]
  refine ⟨_, _, rfl, 2, rfl, _, rfl, ?_⟩
  simp! only [List.length_map]
  refine ⟨_, _, rfl, 1, rfl, _, rfl, ?_⟩
  simp! only []
  exact q
theorem rd_Deeds_init : Rd 3 [true, true, true] 3 sp_Deeds_init t_Deeds_init := by
  rintro ds Q Ex hl ⟨⟨M, most⟩, rfl, _, q⟩
  unfold t_Deeds_init
  simp! only [vFld, mm_fz]
  refine ⟨false, _, _, rfl, mm_fzL M, ?_⟩
  exact ⟨_, _, rfl, rfl, by decide, _, _, rfl, rfl, by decide, _, _, rfl, rfl, by decide, q⟩
theorem rd_made : Rd 3 [true, true, true] 5 sp_made t_made := by
  rintro ds Q Ex hl ⟨⟨s, i, j⟩, rfl, hj, q⟩
  have hj : Sm j := hj
  have q : match (madeV s i j).map D.int with
    | some r => Q r [.str s, .int i, .int j]
    | none => Ex (.type "ByNought") .non [.str s, .int i, .int j] := q
  unfold madeV at q
  unfold t_made
  simp! only []
  by_cases h1 : s = [43]
  · rw [if_pos h1]; rw [if_pos h1] at q; exact q
  rw [if_neg h1]; rw [if_neg h1] at q
  by_cases h2 : s = [45]
  · rw [if_pos h2]; rw [if_pos h2] at q; exact q
  rw [if_neg h2]; rw [if_neg h2] at q
  by_cases h3 : s = [38]
  · rw [if_pos h3]; rw [if_pos h3] at q; exact q
  rw [if_neg h3]; rw [if_neg h3] at q
  by_cases h4 : s = [94]
  · rw [if_pos h4]; rw [if_pos h4] at q; exact q
  rw [if_neg h4]; rw [if_neg h4] at q
  by_cases h5 : j = 0
  · rw [if_pos h5]; rw [if_pos h5] at q; exact ⟨by simp, q⟩
  rw [if_neg h5]; rw [if_neg h5] at q
  refine ⟨cdv_sm h5 hj, ?_⟩
  by_cases h6 : s = [47]
  · rw [if_pos h6]; rw [if_pos h6] at q; exact q
  rw [if_neg h6]; rw [if_neg h6] at q; exact q
theorem rd_holds : Rd 3 [true, true, true] 3 sp_holds t_holds := by
  rintro ds Q Ex hl ⟨⟨s, i, j⟩, rfl, _, q⟩
  unfold t_holds
  simp! only []
  have q : Q (.bl (if s = [60] then decide (i < j) else decide (i = j))) [.str s, .int i, .int j] := q
  by_cases h : s = [60]
  · rw [if_pos h]
    rw [if_pos h] at q
    exact q
  · rw [if_neg h]
    rw [if_neg h] at q
    exact q
theorem rd_worth : Rd 2 [true, true] 2 sp_worth t_worth := by
  rintro ds Q Ex hl ⟨⟨a, M⟩, rfl, _, q⟩
  unfold t_worth
  cases a with
  | inl i =>
    simp! only [opD]
    exact q
  | inr s =>
    simp! only [opD, isDct_mm, vdget_mm, mm_fz]
    exact q
theorem rd_place_behind : Rd 4 [true, true, true, true] 5 sp_place_behind t_place_behind := by
  rintro ds Q Ex hl ⟨⟨rs, k, d⟩, rfl, ⟨R, hm, hd⟩, q⟩
  have R : RwOk rs := R
  have hm : d.mem.length < 1000000 := hm
  have hd : d.done.length < 1000000 := hd
  unfold PbA.args at *
  cases hr : rs[k]? with
  | none => simp only [hr] at q
  | some r =>
    unfold t_place_behind
    cases r with
    | jump n to => simp only [hr] at q
    | fin n => simp only [hr] at q
    | sum n x o sg p =>
      simp only [hr] at q
      obtain ⟨hs, q⟩ := q
      simp! only [rws_fz, ix_rws hr, rwD_sum, opD_fz, vMeth]
      refine ⟨⟨_, _, rfl, rfl⟩, c_Deeds_sum_of ⟨hs, hm, hd⟩ ?_⟩
      cases e : madeV sg (worthM d.mem o) (worthM d.mem p) with
      | none =>
        rw [e] at q
        exact ⟨rfl, by show 4 ≤ 5; decide, q⟩
      | some v =>
        rw [e] at q
        refine ⟨rfl, _, rfl, rfl, ?_⟩
        simp! only []
        exact q
    | test n o sg p to =>
      simp only [hr] at q
      have tm := R.tos _ (List.mem_of_getElem? hr) to (by simp [Rw.tos])
      simp! only [rws_fz, ix_rws hr, rwD_test, opD_fz, vMeth]
      refine ⟨⟨_, _, rfl, rfl⟩, c_Deeds_test_of hd ⟨rfl, _, rfl, ?_⟩⟩
      cases e : holdsV sg (worthM d.mem o) (worthM d.mem p) with
      | true =>
        rw [e] at q
        rw [if_pos rfl]
        refine ⟨_, rfl, plc_fz rs, _, rfl, by simp [isFz, isFzL, opD_fz], ?_⟩
        exact ⟨_, rfl, rfl, _, ix_plc tm, rfl, by show 4 ≤ 5; decide, q⟩
      | false =>
        rw [e] at q
        rw [if_neg (by decide)]
        refine ⟨_, rfl, rfl, ?_⟩
        simp! only []
        exact q
def enumR (n : Nat) (ds : List D) : List D := (ds.zipIdx n).map fun p => D.tup [.int (p.2 : Nat), p.1]
theorem enumD_R (ds : List D) : enumD ds = enumR 0 ds := rfl
theorem plc_putS {ks : List Nat} {vs : List D} {k : Nat} {y : D} (h : k ∉ ks) (hl : vs.length < 1000000) {P : D → Prop} : (∃ c, putD (.dK true (natK ks) vs) (.int (k : Int)) y = some c ∧ P c) ↔ P (.dK true (natK (ks ++ [k])) (vs ++ [y])) := by
  have e : putD (.dK true (natK ks) vs) (.int (k : Int)) y = some (.dK true (natK (ks ++ [k])) (vs ++ [y])) := by
    show (if vs.length < 1000000 then (some (Sum.inl (k : Int) : Kc)).map (fun z => match kIx (natK ks) z with | some j => D.dK true (natK ks) (vs.set j y) | none => .dK true (natK ks ++ [z]) (vs ++ [y])) else none) = _
    rw [if_pos hl]
    show some (match kIx (natK ks) (Sum.inl (k : Int)) with | some j => D.dK true (natK ks) (vs.set j y) | none => .dK true (natK ks ++ [Sum.inl (k : Int)]) (vs ++ [y])) = _
    rw [kIx_nat, if_neg h, natK_app]
  rw [e]
  exact ⟨fun ⟨_, e, p⟩ => by cases e; exact p, fun p => ⟨_, rfl, p⟩⟩
theorem for_run {rs : List Rw} {M most : Option D} {N : VEnds} : ∀ (todo dn : List Rw) (u v : Option D), (nums (dn ++ todo)).Nodup → dn.length + todo.length < 1000000 →
    (∀ u v, N.nx [some (.lst false (rs.map rwD)), M, most, some (.dK true (natK (nums (dn ++ todo))) (natsD (List.range (dn ++ todo).length))), u, v, none, none]) →
    vForL (vNames [4, 5]) lb_run0 (enumR dn.length (todo.map rwD)) N [some (.lst false (rs.map rwD)), M, most, some (.dK true (natK (nums dn)) (natsD (List.range dn.length))), u, v, none, none]
  | [], dn, u, v, _, _, q => by
    rw [List.append_nil] at q
    exact q u v
  | r :: todo, dn, u, v, nd, hl, q => by
    show vForL (vNames [4, 5]) lb_run0 (.tup [.int (dn.length : Int), rwD r] :: enumR (dn.length + 1) (todo.map rwD)) N _
    rw [e_forU lb_run0.eq_1]
    have hl : dn.length + (todo.length + 1) < 1000000 := hl
    have ho : r.num ∉ nums dn := fun z => by
      have nd2 : (nums dn ++ (r.num :: nums todo)).Nodup := by
        have : nums (dn ++ r :: todo) = nums dn ++ (r.num :: nums todo) := by simp [nums]
        rwa [this] at nd
      exact (List.nodup_append.mp nd2).2.2 _ z _ (by simp) rfl
    have i0 : ixD (rwD r) (.int 0) = some (.int (r.num : Int)) := by cases r <;> rfl
    simp! only [rwD_fz, i0, plc_putS ho (show (natsD (List.range dn.length)).length < 1000000 by rw [natsD_len]; simp; omega)]
    have er : natsD (List.range dn.length) ++ [D.int (dn.length : Int)] = natsD (List.range (dn ++ [r]).length) := by
      rw [List.length_append, List.length_singleton, List.range_succ]
      unfold natsD
      simp
    have el : dn.length + 1 = (dn ++ [r]).length := by simp
    have en : nums dn ++ [r.num] = nums (dn ++ [r]) := by simp [nums]
    rw [er, el, en]
    refine for_run todo (dn ++ [r]) _ _ (by simpa using nd) (by simp; omega) fun u v => ?_
    rw [List.append_assoc]
    exact q u v
/-- the loop's state -/
def runE (rs : List Rw) (M : Mem) (most : Int) (s : RS) (m : Bool) (u : Option D) : Ep := [some (.lst false (rs.map rwD)), some (mmD false M), some (.int most), some (plcD m rs), some (.int (s.pos : Int)), u, some (ddsD true ⟨s.mem, most, s.done⟩), some (.int (s.jumps : Int))]
theorem rd_run : Rd 3 [true, true, true] 8 sp_run t_run := by
  rintro ds Q Ex hl ⟨⟨rs, M, most, res⟩, rfl, ⟨R, n, r⟩, q⟩
  have R : RwOk rs := R
  have few := R.few
  have r : RunsN rs most res n ⟨0, 0, M, []⟩ := r
  have q : Q (toldD res) [.lst false (rs.map rwD), mmD false M, .int most] := q
  unfold RunA.args t_run
  simp! only [rws_fz]
  rw [enumD_R]
  refine for_run rs [] none none (by simpa using R.nd) (by simp; omega) fun u v => ?_
  rw [List.nil_append]
  simp! only [rws_fz, vNew, mm_fz]
  refine c_Deeds_init ⟨rfl, _, _, rfl, rfl, ?_⟩
  simp! only [rws_fz]
  refine ⟨fun m ε => ∃ s b u, RunsN rs most res m s ∧ ε = runE rs M most s b u, ⟨n, ⟨0, 0, M, []⟩, true, v, r, rfl⟩, ?_⟩
  rintro m ε ⟨s, b, u, rn, rfl⟩
  obtain ⟨pos, jumps, mem, done⟩ := s
  obtain ⟨lt, hm, hd, sm⟩ := rn.ok
  have lt : pos < rs.length := lt
  have hm : mem.length ≤ 100000 := hm
  have hd : done.length ≤ 100000 := hd
  have step := rn.inv
  obtain ⟨rw, hr⟩ : ∃ r, rs[pos]? = some r := ⟨_, List.getElem?_eq_getElem lt⟩
  unfold runE
  cases rw with
  | fin k =>
    rw [stepR_fin hr] at step
    have e := step_l step
    subst e
    simp! only [rws_fz, ix_rws hr, rwD_fin, vMeth]
    exact ⟨⟨_, _, rfl, rfl⟩, c_Deeds_told ⟨rfl, by show 3 ≤ 8; decide, q⟩⟩
  | jump k to =>
    rw [stepR_jump hr] at step
    have tm := R.tos _ (List.mem_of_getElem? hr) to (by simp [Rw.tos])
    simp! only [rws_fz, ix_rws hr, rwD_jump]
    unfold lb_run4
    simp! only [rws_fz, ix_rws hr, rwD_jump, vMeth, plc_frz]
    rw [if_pos (by decide)]
    refine ⟨_, ix_plc tm, rfl, ?_⟩
    by_cases h : rs.length < jumps + 1
    · rw [if_pos h] at step
      have e := step_l step
      subst e
      rw [if_pos (by omega)]
      exact ⟨⟨_, _, rfl, rfl⟩, c_Deeds_told ⟨rfl, by show 3 ≤ 8; decide, q⟩⟩
    · rw [if_neg h] at step
      obtain ⟨n', rfl, r'⟩ := step_r step
      rw [if_neg (by omega)]
      exact ⟨n', by omega, _, r', false, rfl, rfl, rfl, by show (jumps : Int) + 1 = ((jumps + 1 : Nat) : Int); omega⟩
  | sum k x o sg p =>
    rw [stepR_sum hr] at step
    have hs : Sm (worthM mem p) := sm _ _ _ _ _ hr
    simp! only [rws_fz, ix_rws hr, rwD_sum]
    unfold lb_run4
    simp! only [rws_fz, ix_rws hr, rwD_sum, vMeth, plc_frz]
    rw [if_pos (by decide)]
    refine ⟨⟨_, _, rfl, rfl⟩, c_Deeds_full ⟨rfl, _, rfl, ?_⟩⟩
    by_cases h : most ≤ done.length
    · rw [if_pos h] at step
      have e := step_l step
      subst e
      rw [if_pos (decide_eq_true h)]
      exact ⟨⟨_, _, rfl, rfl⟩, _, rfl, c_Deeds_told ⟨rfl, by show 3 ≤ 8; decide, q⟩⟩
    · rw [if_neg h] at step
      rw [if_neg (by simpa using h)]
      simp! only [vTryE]
      unfold ly_run1
      simp! only [rws_fz, plc_frz]
      refine c_pb_sum ⟨R, by show mem.length < _; omega, by show done.length < _; omega⟩ hr hs ?_
      cases e : madeV sg (worthM mem o) (worthM mem p) with
      | none =>
        rw [e] at step
        have e2 := step_l step
        subst e2
        refine ⟨rfl, "ByNought", rfl, true, rfl, .inl ⟨rfl, rfl, ?_⟩⟩
        unfold lx_run1
        simp! only [vMeth]
        exact ⟨⟨_, _, rfl, rfl⟩, c_Deeds_told ⟨rfl, by show 3 ≤ 8; decide, q⟩⟩
      | some v =>
        rw [e] at step
        obtain ⟨n', rfl, r'⟩ := step_r step
        refine ⟨rfl, ?_⟩
        unfold lz_run1
        simp! only []
        exact ⟨n', by omega, _, r', false, rfl, rfl, rfl, rfl⟩
  | test k o sg p to =>
    rw [stepR_test hr] at step
    simp! only [rws_fz, ix_rws hr, rwD_test]
    unfold lb_run4
    simp! only [rws_fz, ix_rws hr, rwD_test, vMeth, plc_frz]
    rw [if_pos (by decide)]
    refine ⟨⟨_, _, rfl, rfl⟩, c_Deeds_full ⟨rfl, _, rfl, ?_⟩⟩
    by_cases h : most ≤ done.length
    · rw [if_pos h] at step
      have e := step_l step
      subst e
      rw [if_pos (decide_eq_true h)]
      exact ⟨⟨_, _, rfl, rfl⟩, _, rfl, c_Deeds_told ⟨rfl, by show 3 ≤ 8; decide, q⟩⟩
    · rw [if_neg h] at step
      obtain ⟨n', rfl, r'⟩ := step_r step
      rw [if_neg (by simpa using h)]
      simp! only [vTryE]
      unfold ly_run1
      simp! only [rws_fz, plc_frz]
      refine c_pb_test ⟨R, by show mem.length < _; omega, by show done.length < _; omega⟩ hr ?_
      refine ⟨rfl, ?_⟩
      unfold lz_run1
      simp! only []
      exact ⟨n', by omega, _, r', false, rfl, rfl, rfl, rfl⟩
theorem rd_Lcell : Rd 2 [true, true] 2 sp_Lcell t_Lcell := by
  rintro ds Q Ex hl ⟨⟨ns, k⟩, rfl, h0, q⟩
  have q : Q (.int (cellI ns k)) [scriptD ns, .int k] := q
  have h0 : 0 ≤ k := h0
  unfold t_Lcell
  simp! only [script_fz, script_len]
  unfold cellI at q
  by_cases h : k < ns.length
  · rw [if_pos h]
    unfold scriptD
    simp! only [List.length_map]
    have hk : k.toNat < ns.length := by omega
    rw [ixN_pos h0 h]
    refine ⟨.int ns[k.toNat], by simp [hk], rfl, ?_⟩
    rw [List.getElem?_eq_getElem hk] at q
    exact q
  · rw [if_neg h]
    rw [List.getElem?_eq_none (by omega)] at q
    exact q
theorem rd_Lmixed : Rd 2 [true, true] 3 sp_Lmixed t_Lmixed := by
  rintro ds Q Ex hl ⟨⟨c, k⟩, rfl, hk, q⟩
  unfold t_Lmixed
  simp! only []
  have hk : k.natAbs < 1125899906842624 := hk
  refine ⟨.inl (.inr (by omega)), ?_, q⟩
  have h1 := Int.emod_nonneg (c % 2147483647 * 48271 + 7919 * k * k + 104729) (show (2147483647 : Int) ≠ 0 by decide)
  have h2 := Int.emod_lt_of_pos (c % 2147483647 * 48271 + 7919 * k * k + 104729) (show (0 : Int) < 2147483647 by decide)
  exact .inl (.inl (by omega))
def nmA (t z : Int) (c : Cs) : Cs := cutL [118, 55, 119, 56, 120, 57, 121, 122] none (some t) ++ c ++ cutL [118, 55, 119, 56, 120, 57, 121, 122] (some (t + 1)) (some z)
theorem nmA_inj {t z : Int} {a b : Nat} (h : nmA t z [a] = nmA t z [b]) : a = b := by
  unfold nmA at h
  rw [List.append_left_inj] at h
  have := List.append_cancel_left h
  simpa using this
theorem cutL_mem {α : Type} {xs : List α} {lo hi : Option Int} {x : α} (h : x ∈ cutL xs lo hi) : x ∈ xs := by
  unfold cutL at h
  exact List.mem_of_mem_drop (List.mem_of_mem_take h)
theorem nmA_good {t z : Int} {a : Nat} (h : a < 1000) : Cs.good (nmA t z [a]) = true := by
  have gb : Cs.good [118, 55, 119, 56, 120, 57, 121, 122] = true := by decide
  unfold Cs.good at gb ⊢
  rw [List.all_eq_true] at gb ⊢
  intro x hx
  unfold nmA at hx
  rcases List.mem_append.mp hx with hx | hx
  · rcases List.mem_append.mp hx with hx | hx
    · exact gb x (cutL_mem hx)
    · rw [List.mem_singleton.mp hx]; exact decide_eq_true (by omega)
  · exact gb x (cutL_mem hx)
theorem nmA_len {t z : Int} {a : Nat} : (cutL ([118, 55, 119, 56, 120, 57, 121, 122] : Cs) none (some t)).length ≤ 8 ∧ (cutL ([118, 55, 119, 56, 120, 57, 121, 122] : Cs) (some (t + 1)) (some z)).length ≤ 8 := ⟨cutL_len _ _ _, cutL_len _ _ _⟩
def sgn (S : Cs) (n k : Int) : Nat := S.getD ((n / 64 + 7 * k) % (S.length : Int)).toNat 0
theorem sgn_at {S : Cs} (hS : 0 < S.length) (hz : S.length < 1000) {n k : Int} {P : D → Prop} (q : P (.str [sgn S n k])) : ∃ d, ixD (.str S) (.int (pmod (n / 64 + 7 * k) (S.length : Int))) = some d ∧ isFz d = true ∧ P d := by
  rw [pmod_pos (by omega)]
  have h0 := Int.emod_nonneg (n / 64 + 7 * k) (show (S.length : Int) ≠ 0 by omega)
  have h1 := Int.emod_lt_of_pos (n / 64 + 7 * k) (show (0 : Int) < S.length by omega)
  refine ⟨_, ix_str h0 (by omega) (by omega), rfl, ?_⟩
  have e : S[((n / 64 + 7 * k) % (S.length : Int)).toNat]'(by omega) = sgn S n k := by
    unfold sgn
    rw [List.getD_eq_getElem?_getD, List.getElem?_eq_getElem (by omega)]
    rfl
  rw [e]
  exact q
def signs26 : Cs := [97, 98, 99, 100, 101, 102, 103, 104, 105, 106, 107, 108, 109, 110, 111, 112, 113, 114, 115, 116, 117, 118, 119, 120, 121, 122]
def signs36 : Cs := [97, 98, 99, 100, 101, 102, 103, 104, 105, 106, 107, 108, 109, 110, 111, 112, 113, 114, 115, 116, 117, 118, 119, 120, 121, 122, 48, 49, 50, 51, 52, 53, 54, 55, 56, 57]
theorem sgn_lt {S : Cs} (h : S = signs26 ∨ S = signs36) (n k : Int) : sgn S n k < 1000 := by
  have hS : ∀ x ∈ S, x < 1000 := by rcases h with rfl | rfl <;> decide
  unfold sgn
  rw [List.getD_eq_getElem?_getD]
  cases e : S[((n / 64 + 7 * k) % (S.length : Int)).toNat]? with
  | none => show 0 < 1000; decide
  | some x => exact hS x (List.mem_of_getElem? e)
theorem sgn_nd {S : Cs} (h : S = signs26 ∨ S = signs36) (n : Int) {i j : Nat} (hi : i < 4) (hj : j < 4) (e : sgn S n (i : Int) = sgn S n (j : Int)) : i = j := by
  have nd : S.Nodup := by rcases h with rfl | rfl <;> decide
  have hl : (S.length : Int) = 26 ∨ (S.length : Int) = 36 := by rcases h with rfl | rfl <;> decide
  have key : ∀ k : Int, ∃ (m : Nat) (hm : m < S.length), S[m] = sgn S n k ∧ (m : Int) = (n / 64 + 7 * k) % (S.length : Int) := fun k => by
    have h0 := Int.emod_nonneg (n / 64 + 7 * k) (show (S.length : Int) ≠ 0 by omega)
    have h1 := Int.emod_lt_of_pos (n / 64 + 7 * k) (show (0 : Int) < S.length by omega)
    refine ⟨((n / 64 + 7 * k) % (S.length : Int)).toNat, by omega, ?_, by omega⟩
    unfold sgn
    rw [List.getD_eq_getElem?_getD, List.getElem?_eq_getElem (by omega)]
    rfl
  obtain ⟨a, ha, e1, e2⟩ := key i
  obtain ⟨b, hb, e3, e4⟩ := key j
  have : a = b := nodup_get nd ha hb (by rw [e1, e3, e])
  subst this
  rcases hl with hl | hl <;> rw [hl] at e2 e4 <;> omega
theorem body_Lnames {S : Cs} (h : S = signs26 ∨ S = signs36) {n t z : Int} {N : VEnds} : ∀ (m i : Nat) (acc : List Cs) (u v : Option D), acc.length = i → i + m = 4 →
    (∀ u v, N.nx [some (.int n), some (.int z), some (.int t), some (.str S), some (.lst true (strsD (acc ++ (List.range' i m).map fun k : Nat => nmA t z [sgn S n (k : Int)]))), u, v]) →
    vForL (vName 5) lb_Lnames0 (natsD (List.range' i m)) N [some (.int n), some (.int z), some (.int t), some (.str S), some (.lst true (strsD acc)), u, v]
  | 0, i, acc, u, v, _, _, q => by
    have := q u v
    rw [show List.range' i 0 = [] from rfl, List.map_nil, List.append_nil] at this
    exact this
  | m + 1, i, acc, u, v, hl, hm, q => by
    show vForL (vName 5) lb_Lnames0 (D.int (i : Int) :: natsD (List.range' (i + 1) m)) N _
    rw [e_forU lb_Lnames0.eq_1]
    have hS : 0 < S.length ∧ S.length < 1000 := by rcases h with rfl | rfl <;> decide
    have l := @nmA_len t z 0
    simp! only []
    refine ⟨by omega, ?_⟩
    have sl : S.length < 1000000 := by omega
    refine ⟨by omega, sgn_at hS.1 hS.2 ?_⟩
    simp! only []
    refine ⟨by omega, by simp; omega, by simp [strsD]; omega, ?_⟩
    have e : strsD acc ++ [D.str (nmA t z [sgn S n (i : Int)])] = strsD (acc ++ [nmA t z [sgn S n (i : Int)]]) := by unfold strsD; rw [List.map_append]; rfl
    show vForL (vName 5) lb_Lnames0 (natsD (List.range' (i + 1) m)) N [_, _, _, _, some (.lst true (strsD acc ++ [D.str (nmA t z [sgn S n (i : Int)])])), _, _]
    rw [e]
    refine body_Lnames h m (i + 1) _ _ _ (by simp; omega) (by omega) fun u v => ?_
    rw [List.append_assoc]
    exact q u v
theorem rd_Lnames : Rd 1 [true] 7 sp_Lnames t_Lnames := by
  rintro ds Q Ex hl ⟨n, rfl, _, q⟩
  have q : ∀ nm, NmsOk nm → nm.Nodup → Q (.lst true (strsD nm)) [.int n] := fun nm h h2 => q _ ⟨nm, rfl, h, h2⟩
  have fin : ∀ (S : Cs) (t z : Int), S = signs26 ∨ S = signs36 → Q (.lst true (strsD ((List.range' 0 4).map fun k : Nat => nmA t z [sgn S n (k : Int)]))) [.int n] := fun S t z h => by
    refine q _ ⟨by simp, fun s hs => ?_⟩ ?_
    · obtain ⟨k, _, rfl⟩ := List.mem_map.mp hs
      exact nmA_good (sgn_lt h _ _)
    · refine List.pairwise_iff_getElem.mpr fun i j hi hj hij e => ?_
      simp at hi hj
      simp at e
      have := sgn_nd h n hi hj (nmA_inj e)
      omega
  unfold t_Lnames
  simp! only []
  have h0 := Int.emod_nonneg n (show (8 : Int) ≠ 0 by decide)
  refine ⟨by omega, ?_⟩
  have e : rng 0 4 = natsD (List.range' 0 4) := by rw [rngN, List.range_eq_range']
  rw [e]
  split
  · refine body_Lnames (S := signs26) (.inl rfl) 4 0 [] none none rfl rfl fun u v => ?_
    simp! only []
    exact fin _ _ _ (.inl rfl)
  · refine body_Lnames (S := signs36) (.inr rfl) 4 0 [] none none rfl rfl fun u v => ?_
    simp! only []
    exact fin _ _ _ (.inr rfl)
theorem rd_Lgreat : Rd 1 [true] 1 sp_Lgreat t_Lgreat := by
  rintro ds Q Ex hl ⟨n, rfl, hn, q⟩
  unfold t_Lgreat
  simp! only []
  exact ⟨big_mul hn (by decide), q⟩
theorem nm_at {nm : List Cs} (h : NmsOk nm) {z : Int} {P : D → Prop} (q : ∀ s ∈ nm, P (.str s)) : ∃ d, ((ixN (strsD nm).length (z % 4)).bind fun j => (strsD nm)[j]?) = some d ∧ isFz d = true ∧ P d := by
  have h0 := Int.emod_nonneg z (show (4 : Int) ≠ 0 by decide)
  have h1 := Int.emod_lt_of_pos z (show (0 : Int) < 4 by decide)
  obtain ⟨i, hi⟩ := Int.eq_ofNat_of_zero_le h0
  rw [hi] at h1 ⊢
  obtain ⟨s, hs, e⟩ := ix_strs (m := false) h.1 (show i < 4 by omega)
  exact ⟨_, e, rfl, q s hs⟩
theorem rd_Loperand : Rd 3 [true, true, true] 3 sp_Loperand t_Loperand := by
  rintro ds Q Ex hl ⟨⟨n, z, nm⟩, rfl, ⟨hn, hs, hb⟩, q⟩
  have hn : NmsOk nm := hn
  have hs : n.natAbs < 4294967296 := hs
  have hb : Builtin.Int.intBits z ≤ 1048576 := hb
  have q : ∀ o : Opd, o.good = true → OpB 61 o → Q (opD o) [.int n, .int z, .lst false (strsD nm)] := fun o g b => q _ ⟨o, rfl, g, b⟩
  unfold t_Loperand
  simp! only [strs_fz, c_Lgreat]
  split
  · have hg := great_lt (z + n)
    have := bits_add hb hs (by decide)
    exact ⟨by omega, q (.inl (great (z + n))) rfl (by show (great (z + n)).natAbs < 2 ^ 61; omega)⟩
  · split
    · exact q (.inl (n / 8 % 9 - 3)) rfl (by show (n / 8 % 9 - 3).natAbs < 2 ^ 61; omega)
    · exact nm_at hn fun s hs => q (.inr s) (hn.2 s hs) trivial
theorem ix_small {ss : List Cs} (h : ss ≠ []) {z : Int} {P : D → Prop} (q : ∀ s ∈ ss, P (.str s)) : ∃ d, ((ixN ss.length (z % (ss.length : Int))).bind fun j => (ss.map D.str)[j]?) = some d ∧ isFz d = true ∧ P d := by
  have lp : 0 < ss.length := List.length_pos_iff.mpr h
  have h0 := Int.emod_nonneg z (show (ss.length : Int) ≠ 0 by omega)
  have h1 := Int.emod_lt_of_pos z (show (0 : Int) < ss.length by omega)
  obtain ⟨i, hi⟩ := Int.eq_ofNat_of_zero_le h0
  rw [hi] at h1 ⊢
  have hl : i < ss.length := by omega
  refine ⟨.str ss[i], ?_, rfl, q _ (List.getElem_mem hl)⟩
  rw [ixN_nat hl]
  show (ss.map D.str)[i]? = _
  rw [List.getElem?_map, List.getElem?_eq_getElem hl]
  rfl
theorem nat_at {ns : List Nat} (h : 0 < ns.length) {z : Int} {P : D → Prop} (q : ∀ t ∈ ns, P (.int (t : Int))) : ∃ d, ((ixN ns.length (pmod z (ns.length : Int))).bind fun j => (natsD ns)[j]?) = some d ∧ isFz d = true ∧ P d := by
  rw [pmod_pos (by omega)]
  have h0 := Int.emod_nonneg z (show (ns.length : Int) ≠ 0 by omega)
  have h1 := Int.emod_lt_of_pos z (show (0 : Int) < ns.length by omega)
  obtain ⟨i, hi⟩ := Int.eq_ofNat_of_zero_le h0
  rw [hi] at h1 ⊢
  have hl : i < ns.length := by omega
  exact (ix_nats (List.getElem?_eq_getElem hl)).mpr (q _ (List.getElem_mem hl))
theorem rd_Lrow : Rd 4 [true, true, true, true] 9 sp_Lrow t_Lrow := by
  rintro ds Q Ex hl ⟨⟨c, k, ns, nm⟩, rfl, ⟨⟨hn, hb⟩, hk, hl2⟩, q⟩
  have hn : NmsOk nm := hn
  have hb : Builtin.Int.intBits c ≤ 1048576 := hb
  have hb3 : Builtin.Int.intBits (c / 3) ≤ 1048576 := intBits_le_of_natAbs (by omega) hb
  have hk : k < ns.length := hk
  have hl2 : ns.length ≤ 1000 := hl2
  have q : ∀ x : Rw, RowOk ns ns[k] x → Q (rwD x) [.int c, .int (k : Int), .lst false (natsD ns), .lst false (strsD nm)] := fun x h => q _ ⟨x, rfl, ns[k], List.getElem?_eq_getElem hk, h⟩
  have hx : ns[k]? = some ns[k] := List.getElem?_eq_getElem hk
  unfold t_Lrow
  simp! only [c_Lmixed, strs_fz]
  refine ⟨by omega, ?_⟩
  have hm := mixed_lt c (k : Int)
  generalize mixed c (k : Int) = m at hm ⊢
  refine c_Loperand ⟨hn, by omega, hb⟩ fun o1 g1 b1 => ?_
  simp! only [strs_fz]
  refine c_Loperand ⟨hn, by omega, hb3⟩ fun o2 g2 b2 => ?_
  unfold tb_Lrow3
  simp! only [natsD_fz, natsD_len]
  refine ⟨by omega, nat_at (by omega) fun to hto => ?_⟩
  unfold tb_Lrow4
  simp! only [strs_fz]
  split
  · refine ix_small (ss := [[43], [45], [47], [114, 101, 115, 116], [38], [94]]) (by simp) fun sg hsg => ?_
    have gs : Cs.good sg = true := (by decide : ∀ s ∈ [[43], [45], [47], [114, 101, 115, 116], [38], [94]], Cs.good s = true) sg hsg
    have hsg : signOk sg := by simpa [signOk] using hsg
    simp! only [ix_nats hx, strs_fz, opD_fz]
    refine nm_at hn fun s hs => ?_
    exact q (.sum ns[k] s o1 sg o2) ⟨rfl, fun t ht => (nomatch ht), by show (Cs.good s && (o1.good && (Cs.good sg && o2.good))) = true; rw [hn.2 s hs, g1, gs, g2]; rfl, ⟨b1, b2⟩, hsg⟩
  · unfold tb_Lrow5
    simp! only [ix_nats hx, natsD_fz]
    split
    · refine ix_small (ss := [[60], [61]]) (by simp) fun sg hsg => ?_
      have gs : Cs.good sg = true := (by decide : ∀ s ∈ [[60], [61]], Cs.good s = true) sg hsg
      have hsg : testOk sg := by simpa [testOk] using hsg
      exact q (.test ns[k] o1 sg o2 to) ⟨rfl, fun t ht => by rw [List.mem_singleton.mp ht]; exact hto, by show (o1.good && (Cs.good sg && o2.good)) = true; rw [g1, gs, g2]; rfl, trivial, hsg⟩
    · split
      · exact q (.jump ns[k] to) ⟨rfl, fun t ht => by rw [List.mem_singleton.mp ht]; exact hto, rfl, trivial, trivial⟩
      · exact q (.fin ns[k]) ⟨rfl, fun t ht => (nomatch ht), rfl, trivial, trivial⟩
theorem step_Lrows (head : Int) (k : Nat) : ∃ d : Nat, ∀ {P : D → Prop}, (∃ e, ((ixN 3 (head / 1200 % 3)).bind fun j => [D.int 1, D.int 10, D.int 97][j]?) = some e ∧ isFz e = true ∧ P e) ↔ P (.int (d + 1 : Nat)) := by
  have h0 := Int.emod_nonneg (head / 1200) (show (3 : Int) ≠ 0 by decide)
  have h1 := Int.emod_lt_of_pos (head / 1200) (show (0 : Int) < 3 by decide)
  obtain ⟨i, hi⟩ := Int.eq_ofNat_of_zero_le h0
  rw [hi] at h1 ⊢
  have : i = 0 ∨ i = 1 ∨ i = 2 := by omega
  rcases this with rfl | rfl | rfl
  · exact ⟨0, fun {P} => ⟨fun ⟨_, e, _, p⟩ => by cases e; exact p, fun p => ⟨_, rfl, rfl, p⟩⟩⟩
  · exact ⟨9, fun {P} => ⟨fun ⟨_, e, _, p⟩ => by cases e; exact p, fun p => ⟨_, rfl, rfl, p⟩⟩⟩
  · exact ⟨96, fun {P} => ⟨fun ⟨_, e, _, p⟩ => by cases e; exact p, fun p => ⟨_, rfl, rfl, p⟩⟩⟩
theorem for_Lrows {C : D} {head : Int} {a e : Option D} {N : VEnds} {st : Nat} (hst : ∀ {P : D → Prop}, (∃ e, ((ixN 3 (head / 1200 % 3)).bind fun j => [D.int 1, D.int 10, D.int 97][j]?) = some e ∧ isFz e = true ∧ P e) ↔ P (.int (st + 1 : Nat))) : ∀ (n i : Nat) (ns : List Nat) (at_ : Nat) (u : Option D), ns.length = i → i + n ≤ 1000 → ns.Pairwise (· < ·) → (∀ x ∈ ns, x < at_) →
    (∀ ns (at_ : Nat) u, ns.length = i + n → ns.Pairwise (· < ·) → N.nx [some C, some (.int head), a, some (.lst true (natsD ns)), some (.int (at_ : Int)), u, e]) →
    vForL (vName 5) lb_Lrows0 (natsD (List.range' i n)) N [some C, some (.int head), a, some (.lst true (natsD ns)), some (.int (at_ : Int)), u, e]
  | 0, i, ns, at_, u, hl, _, pw, _, q => q ns at_ u hl pw
  | n + 1, i, ns, at_, u, hl, hb, pw, hx, q => by
    show vForL (vName 5) lb_Lrows0 (D.int (i : Int) :: natsD (List.range' (i + 1) n)) N _
    rw [e_forU lb_Lrows0.eq_1]
    simp! only [c_Lmixed, natsD_len, hst]
    obtain ⟨w, hw⟩ := Int.eq_ofNat_of_zero_le (show 0 ≤ pmod (mixed head (i : Int)) ((st + 1 : Nat) : Int) by rw [pmod_pos (by omega)]; exact Int.emod_nonneg _ (by omega))
    rw [hw]
    refine ⟨by omega, by omega, by omega, ?_⟩
    have e1 : natsD ns ++ [D.int (at_ : Int)] = natsD (ns ++ [at_]) := natsD_app ns at_
    have e2 : (at_ : Int) + 1 + (w : Int) = ((at_ + 1 + w : Nat) : Int) := by omega
    rw [e1, e2]
    have pw2 : (ns ++ [at_]).Pairwise (· < ·) := by
      refine List.pairwise_append.mpr ⟨pw, List.pairwise_singleton _ _, fun x hx1 y hy => ?_⟩
      rw [List.mem_singleton.mp hy]
      exact hx x hx1
    refine for_Lrows hst n (i + 1) _ _ _ (by simp; omega) (by omega) pw2 (fun x hx1 => ?_) fun ns at_ u h1 h2 => q ns at_ u (by omega) h2
    rcases List.mem_append.mp hx1 with h | h
    · have := hx x h; omega
    · rw [List.mem_singleton.mp h]; omega
theorem lc_Lrows {cs : List Int} {hd : Int} {nm : List Cs} (hnm : NmsOk nm) {ns : List Nat} (hl : ns.length = cs.length + 1) (hb : cs.length ≤ 100) (hbt : ∀ z ∈ cs, Builtin.Int.intBits z ≤ 1048576) {Q : List D → Ep → Prop} {a0 e : Option D} : ∀ (n i : Nat) (m : Bool) (acc : List Rw), acc.length = i → i + n = cs.length → (∀ (k : Nat) r, acc[k]? = some r → ∃ z, ns[k]? = some z ∧ RowOk ns z r) →
    (∀ m (rs : List Rw), rs.length = cs.length → (∀ (k : Nat) r, rs[k]? = some r → ∃ z, ns[k]? = some z ∧ RowOk ns z r) → Q (rs.map rwD) [some (scriptD cs), some (.int hd), some (.lst false (strsD nm)), some (.lst m (natsD ns)), a0, none, e]) →
    vLcL [5] (vName 5) vYes le_Lrows1 (natsD (List.range' i n)) (acc.map rwD) [some (scriptD cs), some (.int hd), some (.lst false (strsD nm)), some (.lst m (natsD ns)), a0, none, e] Q
  | 0, i, m, acc, ha, hi, hr, q => q m acc (by omega) hr
  | n + 1, i, m, acc, ha, hi, hr, q => by
    show vLcL [5] (vName 5) vYes le_Lrows1 (D.int (i : Int) :: natsD (List.range' (i + 1) n)) _ _ _
    rw [e_lcU le_Lrows1.eq_1]
    have hx : cs[i]? = some cs[i] := List.getElem?_eq_getElem (by omega)
    have ec : ∀ {P : D → Prop}, (∃ d, ixD (scriptD cs) (.int (i : Int)) = some d ∧ isFz d = true ∧ P d) ↔ P (.int cs[i]) := ix_at (by rw [List.getElem?_map, hx]; rfl) rfl (by simp)
    have hz : ns[i]? = some ns[i] := List.getElem?_eq_getElem (by omega)
    simp! only [script_fz, ec, natsD_frz, strs_fz]
    refine c_Lrow ⟨⟨hnm, hbt _ (List.getElem_mem (by omega))⟩, by omega⟩ hz fun x hx => ?_
    simp! only []
    refine ⟨by omega, ?_⟩
    have e1 : acc.map rwD ++ [rwD x] = (acc ++ [x]).map rwD := by rw [List.map_append]; rfl
    rw [e1]
    refine lc_Lrows hnm hl hb hbt n (i + 1) false (acc ++ [x]) (by simp; omega) (by omega) (fun k r hk => ?_) q
    by_cases h : k < acc.length
    · rw [List.getElem?_append_left h] at hk; exact hr k r hk
    · rw [List.getElem?_append_right (by omega)] at hk
      have : k - acc.length = 0 := by
        have := (List.getElem?_eq_some_iff.mp hk).1
        simp at this
        omega
      rw [this] at hk
      cases hk
      have : k = i := by omega
      subst this
      exact ⟨_, hz, hx⟩
theorem rows_ok {ns : List Nat} {rs : List Rw} {x : Rw} (pw : ns.Pairwise (· < ·)) (hl : ns.length = rs.length + 1) (few : rs.length < 9000) (h : ∀ (k : Nat) r, rs[k]? = some r → ∃ z, ns[k]? = some z ∧ RowOk ns z r) {z : Nat} (hz : ns[rs.length]? = some z) (hx : RowOk ns z x) (hf : x.falls = false) : RwOk (rs ++ [x]) := by
  have all : ∀ (k : Nat) r, (rs ++ [x])[k]? = some r → ∃ z, ns[k]? = some z ∧ RowOk ns z r := fun k r hk => by
    by_cases q : k < rs.length
    · rw [List.getElem?_append_left q] at hk; exact h k r hk
    · rw [List.getElem?_append_right (by omega)] at hk
      have : k - rs.length = 0 := by
        have := (List.getElem?_eq_some_iff.mp hk).1
        simp at this
        omega
      rw [this] at hk
      cases hk
      have : k = rs.length := by omega
      subst this
      exact ⟨z, hz, hx⟩
  have en : nums (rs ++ [x]) = ns := by
    apply List.ext_getElem?
    intro k
    unfold nums
    rw [List.getElem?_map]
    by_cases q : k < (rs ++ [x]).length
    · obtain ⟨z, h1, h2⟩ := all k _ (List.getElem?_eq_getElem q)
      rw [List.getElem?_eq_getElem q, h1]
      show some _ = some _
      rw [h2.1]
    · rw [List.getElem?_eq_none (by omega), List.getElem?_eq_none (by simp at q; omega)]
      rfl
  have mem : ∀ r ∈ rs ++ [x], ∃ z, RowOk ns z r := fun r hr => by
    obtain ⟨k, hk⟩ := List.mem_iff_getElem?.mp hr
    obtain ⟨z, _, h2⟩ := all k r hk
    exact ⟨z, h2⟩
  refine ⟨by simp, by simp; omega, ?_, fun r hr t ht => ?_, fun r hr => ?_, fun k r hk hfl => ?_⟩
  · rw [en]
    exact pw.imp fun h => Nat.ne_of_lt h
  · rw [en]
    obtain ⟨z, h2⟩ := mem r hr
    exact h2.2.1 t ht
  · obtain ⟨z, h2⟩ := mem r hr
    exact h2.2.2.1
  · by_cases q : k < rs.length
    · simp; omega
    · rw [List.getElem?_append_right (by omega)] at hk
      have : k - rs.length = 0 := by
        have := (List.getElem?_eq_some_iff.mp hk).1
        simp at this
        omega
      rw [this] at hk
      cases hk
      rw [hf] at hfl
      cases hfl
theorem last_nats {ns : List Nat} {z : Nat} (lp : 0 < ns.length) (h : ns[ns.length - 1]? = some z) {P : D → Prop} : (∃ d, ((ixN ns.length (-1)).bind fun j => (natsD ns)[j]?) = some d ∧ isFz d = true ∧ P d) ↔ P (.int (z : Int)) := by
  rw [ixN_neg lp]
  show (∃ d, (natsD ns)[ns.length - 1]? = some d ∧ _) ↔ _
  have : (natsD ns)[ns.length - 1]? = some (.int (z : Int)) := by unfold natsD; rw [List.getElem?_map, h]; rfl
  rw [this]
  exact ⟨fun ⟨_, e, _, p⟩ => by cases e; exact p, fun p => ⟨_, rfl, rfl, p⟩⟩
theorem rd_Lrows : Rd 3 [true, true, true] 7 sp_Lrows t_Lrows := by
  rintro ds Q Ex hl ⟨⟨cs, head, nm⟩, rfl, ⟨hc, hbt, hnm⟩, q⟩
  have hc : cs.length ≤ 60 := hc
  have hbt : ∀ z ∈ cs, Builtin.Int.intBits z ≤ 1048576 := hbt
  have hnm : NmsOk nm := hnm
  have q : ∀ rs : List Rw, RwOk rs → rs.length ≤ 61 → (∀ r ∈ rs, r.opB 61 ∧ r.sgn) → Q (.lst true (rs.map rwD)) [scriptD cs, .int head, .lst false (strsD nm)] := fun rs a b c => q _ ⟨rs, rfl, a, b, c⟩
  unfold t_Lrows
  simp! only [script_fz, script_len, rngN, Int.toNat_natCast]
  refine ⟨by omega, by omega, ?_⟩
  obtain ⟨st, hst⟩ := step_Lrows head 0
  obtain ⟨n0, hn0⟩ := Int.eq_ofNat_of_zero_le (Int.emod_nonneg (head / 4) (show (300 : Int) ≠ 0 by decide))
  have e0 : (1 : Int) + head / 4 % 300 = ((1 + n0 : Nat) : Int) := by omega
  have e1 : ((cs.length : Int) + 1).toNat = cs.length + 1 := by omega
  rw [e0, e1, List.range_eq_range']
  refine for_Lrows hst (cs.length + 1) 0 [] _ none rfl (by omega) .nil (fun x hx => nomatch hx) fun ns at_ u hl pw => ?_
  have hl : ns.length = cs.length + 1 := by omega
  have fin : ∀ u : Option D, tb_Lrows3 { nx := fun ε => 3 ≤ List.length ε ∧ Q D.non (finalL [true, true, true] [scriptD cs, D.int head, .lst false (strsD nm)] ε), rt := fun r ε => 3 ≤ List.length ε ∧ Q r (finalL [true, true, true] [scriptD cs, D.int head, .lst false (strsD nm)] ε), rx := fun cls row ε => 3 ≤ List.length ε ∧ Ex cls row (finalL [true, true, true] [scriptD cs, D.int head, .lst false (strsD nm)] ε) } [some (scriptD cs), some (.int head), some (.lst false (strsD nm)), some (.lst true (natsD ns)), some (.int (at_ : Int)), u, none] := fun u => by
    unfold tb_Lrows3
    cases u <;> (
      simp! only [script_fz, script_len, rngN, Int.toNat_natCast]
      refine ⟨by omega, by omega, ?_⟩
      rw [List.range_eq_range']
      refine lc_Lrows hnm hl (by omega) hbt cs.length 0 true [] rfl (by omega) (fun k r h => (by simp at h)) fun m rs hrl hr => ?_
      have hz : ns[rs.length]? = some ns[rs.length] := List.getElem?_eq_getElem (by omega)
      have hz2 : ns[ns.length - 1]? = some ns[rs.length] := by rw [← hz]; congr 1; omega
      have mem : ∀ r ∈ rs, r.opB 61 ∧ r.sgn := fun r h => by
        obtain ⟨k, hk⟩ := List.mem_iff_getElem?.mp h
        obtain ⟨z, _, h2⟩ := hr k r hk
        exact h2.2.2.2
      have mem2 : ∀ x : Rw, x.opB 61 ∧ x.sgn → ∀ r ∈ rs ++ [x], r.opB 61 ∧ r.sgn := fun x hx r h => by
        rcases List.mem_append.mp h with h | h
        · exact mem r h
        · rw [List.mem_singleton.mp h]; exact hx
      simp! only [natsD_frz]
      split
      · refine (last_nats (by omega) hz2).mpr ⟨by omega, nat_at (by omega) fun t ht => ⟨rfl, by omega, ?_⟩⟩
        have e1 : rs.map rwD ++ [D.tup [D.int (ns[rs.length] : Int), D.str [106, 117, 109, 112], frz (D.int (t : Int))]] = (rs ++ [Rw.jump ns[rs.length] t]).map rwD := by rw [List.map_append]; rfl
        rw [e1]
        exact q _ (rows_ok pw (by omega) (by omega) hr hz ⟨rfl, fun u hu => by rw [List.mem_singleton.mp hu]; exact ht, rfl, trivial, trivial⟩ rfl) (by simp; omega) (mem2 _ ⟨trivial, trivial⟩)
      · refine (last_nats (by omega) hz2).mpr ⟨by omega, ?_⟩
        have e1 : rs.map rwD ++ [D.tup [D.int (ns[rs.length] : Int), D.str [101, 110, 100]]] = (rs ++ [Rw.fin ns[rs.length]]).map rwD := by rw [List.map_append]; rfl
        rw [e1]
        exact q _ (rows_ok pw (by omega) (by omega) hr hz ⟨rfl, fun u hu => (nomatch hu), rfl, trivial, trivial⟩ rfl) (by simp; omega) (mem2 _ ⟨trivial, trivial⟩))
  exact fin u
theorem nm_atN {nm : List Cs} (h : NmsOk nm) {i : Nat} (hi : i < 4) : ∃ s ∈ nm, ixD (.lst false (strsD nm)) (.int (i : Int)) = some (.str s) := by
  obtain ⟨s, hs, e⟩ := ix_strs (m := false) h.1 hi
  exact ⟨s, hs, e⟩
theorem body_Lmemory {c : Int} (hc : Builtin.Int.intBits c ≤ 1048576) {nm : List Cs} (hn : NmsOk nm) {N : VEnds} : ∀ (m i : Nat) (M : Mem) (u v : Option D), i + m = 4 → M.length ≤ i → MemB 61 M →
    (∀ M u v, M.length ≤ 4 → MemB 61 M → N.nx [some (.int c), some (.lst false (strsD nm)), some (mmD true M), u, v]) →
    vForL (vName 3) lb_Lmemory0 (natsD (List.range' i m)) N [some (.int c), some (.lst false (strsD nm)), some (mmD true M), u, v]
  | 0, i, M, u, v, h1, h2, h3, q => q M u v (by omega) h3
  | m + 1, i, M, u, v, h1, h2, h3, q => by
    show vForL (vName 3) lb_Lmemory0 (D.int (i : Int) :: natsD (List.range' (i + 1) m)) N _
    rw [e_forU lb_Lmemory0.eq_1]
    obtain ⟨s, hs, es⟩ := nm_atN hn (show i < 4 by omega)
    have next : ∀ (M' : Mem) u v, M'.length ≤ i + 1 → MemB 61 M' → vForL (vName 3) lb_Lmemory0 (natsD (List.range' (i + 1) m)) N [some (.int c), some (.lst false (strsD nm)), some (mmD true M'), u, v] := fun M' u v h4 h5 => body_Lmemory hc hn m (i + 1) M' u v (by omega) h4 h5 q
    have hm := mixed_lt c (i : Int)
    have hg := great_lt (c + mixed c (i : Int))
    have hb := bits_add hc (show (mixed c (i : Int)).natAbs < 4294967296 by omega) (by decide)
    have put : ∀ (x : Int), Bd 61 x → (putM M s x).length ≤ i + 1 ∧ MemB 61 (putM M s x) := fun x hx => ⟨by have := putM_len M s x; omega, put_bd h3 hx⟩
    have b1 : Bd 61 (great (c + mixed c (i : Int))) := by show (great (c + mixed c (i : Int))).natAbs < 2 ^ 61; omega
    have b2 : Bd 61 (mixed c (i : Int) / 4 % 19 - 9) := by show (mixed c (i : Int) / 4 % 19 - 9).natAbs < 2 ^ 61; omega
    simp! only [c_Lmixed, strs_fz, c_Lgreat, es]
    refine ⟨by omega, ?_⟩
    split
    · refine ⟨by omega, _, put_mm (by omega), ?_⟩
      rw [if_neg (by omega)]
      exact next _ _ _ (put _ b1).1 (put _ b1).2
    · split
      · exact ⟨_, put_mm (by omega), next _ _ _ (put _ b2).1 (put _ b2).2⟩
      · exact next _ _ _ (by omega) h3
theorem rd_Lmemory : Rd 2 [true, true] 5 sp_Lmemory t_Lmemory := by
  rintro ds Q Ex hl ⟨⟨c, nm⟩, rfl, ⟨hc, hn⟩, q⟩
  have q : ∀ M : Mem, MemB 61 M → M.length ≤ 4 → Q (mmD true M) [.int c, .lst false (strsD nm)] := fun M h1 h2 => q _ ⟨M, rfl, h1, h2⟩
  unfold t_Lmemory
  simp! only []
  have e : rng 0 4 = natsD (List.range' 0 4) := by rw [rngN, List.range_eq_range']
  rw [e]
  refine body_Lmemory hc hn 4 0 [] none none rfl (Nat.le_refl _) (fun p hp => nomatch hp) fun M u v h1 h2 => ?_
  simp! only []
  exact q M h2 h1
theorem loop_Lalike {n : Nat} {a : D} {xs : List D} (ha : ∀ k : Nat, k < xs.length → ixD a (.int (k : Int)) = xs[k]?) (hk : plNL n xs = true) (az : isFz a = true) {N : VEnds} : ∀ (ks : List Nat) (u : Option D), (∀ k ∈ ks, k < xs.length) →
    (∀ u, N.nx [some a, some a, u]) → vForL (vName 2) (lb_Lalike0 (n + 1)) (natsD ks) N [some a, some a, u]
  | [], u, _, q => q u
  | k :: ks, u, h, q => by
    show vForL (vName 2) (lb_Lalike0 (n + 1)) (D.int (k : Int) :: natsD ks) N _
    rw [e_forU (lb_Lalike0.eq_1 (n + 1))]
    have hl := h k List.mem_cons_self
    have hk2 := hk
    rw [plNL_all] at hk2
    have z := List.all_eq_true.mp hk2 _ (List.getElem_mem hl)
    have zf := plN_fz n _ z
    simp! only [az, e_ix, ha k hl, List.getElem?_eq_getElem hl, zf]
    refine c_Lalike rfl z ?_
    simp! only []
    exact loop_Lalike ha hk az ks _ (fun i hi => h i (List.mem_cons_of_mem _ hi)) q
theorem rd_Lalike (n : Nat) : Rd 2 [true, true] 3 (sp_Lalike (n + 1)) (t_Lalike n) := by
  rintro ds Q Ex hl ⟨a, rfl, hk, q⟩
  have q : Q (.bl true) [a, a] := q
  have hk : plN n a = true := hk
  have seq : ∀ (a : D) (xs : List D), (∀ k : Nat, k < xs.length → ixD a (.int (k : Int)) = xs[k]?) → xs.length < 1000000 → plNL n.pred xs = true → n ≠ 0 → isFz a = true → Q (.bl true) [a, a] → ∀ (N : VEnds), N.nx = vRet (vC (D.bl true)) { nx := fun ε => 2 ≤ List.length ε ∧ Q D.non (finalL [true, true] [a, a] ε), rt := fun r ε => 2 ≤ List.length ε ∧ Q r (finalL [true, true] [a, a] ε), rx := fun cls row ε => 2 ≤ List.length ε ∧ Ex cls row (finalL [true, true] [a, a] ε) } →
      vForL (vName 2) (lb_Lalike0 n) (rng 0 ((xs.length : Int)).toNat) N [some a, some a, none] := fun a xs ha hl hp hn az q N hN => by
    obtain ⟨m, rfl⟩ : ∃ m, n = m + 1 := ⟨n - 1, by omega⟩
    rw [Int.toNat_natCast, rngN]
    refine loop_Lalike ha hp az _ _ (fun k hk => List.mem_range.mp hk) fun u => ?_
    rw [hN]
    simp! only []
    exact q
  unfold t_Lalike
  cases a with
  | non => cases n <;> simp [plN] at hk
  | bl b => simp! only []; exact q
  | int i => simp! only []; exact q
  | str s => simp! only []; exact q
  | tup xs =>
    cases n with
    | zero => simp [plN] at hk
    | succ n =>
      have hk : (decide (xs.length < 1000000) && plNL n xs) = true := hk
      obtain ⟨h1, h2⟩ := Bool.and_eq_true_iff.mp hk
      have h1 := of_decide_eq_true h1
      have hz2 := plNL_fz h2
      simp! only [hz2, decide_true, Bool.not_true]
      refine ⟨by omega, by omega, seq (.tup xs) xs (fun k h => ?_) h1 h2 (by simp) hz2 q _ rfl⟩
      rw [ixD_t, ixN_nat h]
      rfl
  | lst m xs =>
    cases m with
    | true => cases n <;> simp [plN] at hk
    | false =>
      cases n with
      | zero => simp [plN] at hk
      | succ n =>
        have hk : (!false && (decide (xs.length < 1000000) && plNL n xs)) = true := hk
        rw [Bool.not_false, Bool.true_and] at hk
        obtain ⟨h1, h2⟩ := Bool.and_eq_true_iff.mp hk
        have h1 := of_decide_eq_true h1
        have hz2 := plNL_fz h2
        simp! only [hz2, decide_true, Bool.not_true]
        refine ⟨by omega, by omega, seq (.lst false xs) xs (fun k h => ?_) h1 h2 (by simp) (by show (!false && isFzL xs) = true; rw [hz2]; rfl) q _ rfl⟩
        rw [ixD_l, ixN_nat h]
        rfl
  | _ => cases n <;> simp [plN] at hk
theorem lk_mem {M : Mem} {s : Cs} (h : s ∈ M.map Prod.fst) : ∃ (j : Nat) (p : Cs × Int), kIx (M.map fun p : Cs × Int => (Sum.inr p.1 : Kc)) (.inr s) = some j ∧ M[j]? = some p := by
  induction M with
  | nil => cases h
  | cons q M ih =>
    simp only [List.map_cons, kIx]
    by_cases e : q.1 = s
    · exact ⟨0, q, by rw [if_pos (by rw [e])], rfl⟩
    · rw [List.map_cons, List.mem_cons] at h
      have h := h.resolve_left fun z => e z.symm
      obtain ⟨j, p, h1, h2⟩ := ih h
      exact ⟨j + 1, p, by rw [if_neg fun z => e (Sum.inr.inj z), h1]; rfl, h2⟩
theorem ix_mem {m : Bool} {M : Mem} {s : Cs} (h : s ∈ M.map Prod.fst) : ∃ i : Int, ixD (mmD m M) (.str s) = some (.int i) := by
  obtain ⟨j, p, h1, h2⟩ := lk_mem h
  refine ⟨p.2, ?_⟩
  show ((kIx (M.map fun p : Cs × Int => (Sum.inr p.1 : Kc)) (.inr s)).bind fun j => (M.map fun p : Cs × Int => D.int p.2)[j]?) = _
  rw [h1]
  show (M.map fun p : Cs × Int => D.int p.2)[j]? = _
  rw [List.getElem?_map, h2]
  rfl
theorem mem_mmD {m : Bool} {M : Mem} {s : Cs} (h : s ∈ M.map Prod.fst) : memD (.str s) (mmD m M) = some true := by
  obtain ⟨j, p, h1, h2⟩ := lk_mem h
  show some (kIx (M.map fun p : Cs × Int => (Sum.inr p.1 : Kc)) (.inr s)).isSome = some true
  rw [h1]
  rfl
theorem same_loop {M : Mem} {N : VEnds} : ∀ (ns : List Cs) (u : Option D), (∀ s ∈ ns, s ∈ M.map Prod.fst) → (∀ u, N.nx [some (mmD false M), some (mmD false M), u]) →
    vForL (vName 2) lb_Lsame_memory0 (ns.map fun s => D.str s) N [some (mmD false M), some (mmD false M), u]
  | [], u, _, q => q u
  | s :: ns, u, h, q => by
    show vForL (vName 2) lb_Lsame_memory0 (D.str s :: ns.map fun s => D.str s) N _
    rw [e_forU lb_Lsame_memory0.eq_1]
    obtain ⟨i, hi⟩ := ix_mem (m := false) (h s List.mem_cons_self)
    simp! only [mm_fz, hi]
    rw [mem_mmD (h s List.mem_cons_self)]
    refine ⟨true, rfl, ?_⟩
    rw [if_neg (by decide)]
    refine c_Lalike rfl (by first | exact plN_int _ _ | rfl) ?_
    simp! only []
    exact same_loop ns _ (fun z hz => h z (List.mem_cons_of_mem _ hz)) q
theorem rd_Lsame_memory : Rd 2 [true, true] 3 sp_Lsame_memory t_Lsame_memory := by
  rintro ds Q Ex hl ⟨M, rfl, h, q⟩
  have q : Q (.bl true) [mmD false M, mmD false M] := q
  have ln : ∀ Q : D → Prop, sLen [mmD false M] Q ↔ Q (.int M.length) := fun Q => by unfold mmD; rw [e_lenK, List.length_map]
  unfold t_Lsame_memory
  simp! only [mm_fz, ln]
  refine ⟨_, rfl, ?_⟩
  simp! only [ln]
  refine ⟨_, _, rfl, ?_⟩
  have e : ((M.map fun p : Cs × Int => (Sum.inr p.1 : Kc)).map keyKD) = (M.map Prod.fst).map fun s => D.str s := by
    rw [List.map_map, List.map_map]
    rfl
  rw [e]
  refine same_loop (M.map Prod.fst) none (fun z hz => hz) fun u => ?_
  simp! only [mm_fz]
  exact q
theorem rd_Lworth : Rd 2 [true, true] 2 sp_Lworth t_Lworth := by
  rintro ds Q Ex hl ⟨⟨a, M⟩, rfl, _, q⟩
  have q : Q (.int (worthM M a)) [opD a, mmD false M] := q
  unfold t_Lworth
  cases a with
  | inl i => simp! only [opD, mm_fz]; exact q
  | inr s => simp! only [opD, mm_fz, isDct_mm, vdget_mm]; exact q
theorem rd_Lsum : Rd 3 [true, true, true] 3 sp_Lsum t_Lsum := by
  rintro ds Q Ex hl ⟨⟨⟨s, i, j⟩, v⟩, rfl, ⟨h, hs, e⟩, q⟩
  have h : signOk s := h
  have hs : Sm j := hs
  have e : madeV s i j = some v := e
  have q : Q (.int v) [.str s, .int i, .int j] := q
  have nz : ∀ {x y : Option Int}, (if j = 0 then none else x) = some v → j ≠ 0 ∧ x = some v := fun h => by
    split at h
    · cases h
    · next n => exact ⟨n, h⟩
  unfold t_Lsum
  rcases h with rfl | rfl | rfl | rfl | rfl | rfl
  · have e : some (i + j) = some v := e
    cases e
    simp! only []
    exact q
  · have e : some (i - j) = some v := e
    cases e
    simp! only []
    exact q
  · obtain ⟨n, e⟩ := nz (y := none) (show (if j = 0 then none else some (pdiv i j)) = some v from e)
    cases e
    simp! only []
    exact ⟨cdv_sm n hs, q⟩
  · obtain ⟨n, e⟩ := nz (y := none) (show (if j = 0 then none else some (pmod i j)) = some v from e)
    cases e
    simp! only []
    exact ⟨n, q⟩
  · have e : some (Builtin.bitAnd i j) = some v := e
    cases e
    simp! only []
    exact q
  · have e : some (Builtin.bitXor i j) = some v := e
    cases e
    simp! only []
    exact q
theorem rd_Ldeed : Rd 2 [true, true] 4 sp_Ldeed t_Ldeed := by
  rintro ds Q Ex hl ⟨⟨r, M⟩, rfl, ⟨hf, hs, hm⟩, q⟩
  have hf : r.falls = true := hf
  have hs : r.sgn := hs
  have hm : r.smB M := hm
  have q : Q (optDd (deedR M r)) [rwD r, mmD false M] := q
  unfold t_Ldeed
  cases r with
  | jump k to => cases hf
  | fin k => cases hf
  | test k a s b to =>
    have hs : testOk s := hs
    simp! only [rwD_test, rwD_fz, opD_fz, mm_fz]
    refine c_Lworth ?_
    simp! only [opD_fz, mm_fz]
    refine c_Lworth ?_
    rcases hs with rfl | rfl
    · have e : deedR M (.test k a [60] b to) = some (.test (worthM M a) [60] (worthM M b) (decide (worthM M a < worthM M b))) := rfl
      rw [e] at q
      simp! only []
      split
      · next h => rw [decide_eq_true h] at q; exact q
      · next h => rw [decide_eq_false h] at q; exact q
    · simp! only []
      exact q
  | sum k x a s b =>
    have hs : signOk s := hs
    have hm : Sm (worthM M b) := hm
    simp! only [rwD_sum, rwD_fz, opD_fz, mm_fz]
    refine c_Lworth ?_
    simp! only [opD_fz, mm_fz]
    refine c_Lworth ?_
    simp! only []
    have e : deedR M (.sum k x a s b) = (madeV s (worthM M a) (worthM M b)).map fun v => .sum x (worthM M a) s (worthM M b) v := rfl
    rw [e] at q
    have go : ∀ v, madeV s (worthM M a) (worthM M b) = some v → sp_Lsum [.str s, .int (worthM M a), .int (worthM M b)]
            (fun r ds' => ds'.length = 3 ∧ 2 ≤ List.length (restore [none, none, none] ds' [some (rwD (.sum k x a s b)), some (mmD false M), some (D.int (worthM M a)), some (D.int (worthM M b))]) ∧
                  Q (D.tup [D.str [115, 117, 109], D.str x, D.int (worthM M a), D.str s, D.int (worthM M b), r]) (finalL [true, true] [rwD (.sum k x a s b), mmD false M] (restore [none, none, none] ds' [some (rwD (.sum k x a s b)), some (mmD false M), some (D.int (worthM M a)), some (D.int (worthM M b))])))
            fun cls row ds' => ds'.length = 3 ∧ 2 ≤ List.length (restore [none, none, none] ds' [some (rwD (.sum k x a s b)), some (mmD false M), some (D.int (worthM M a)), some (D.int (worthM M b))]) ∧
                Ex cls row (finalL [true, true] [rwD (.sum k x a s b), mmD false M] (restore [none, none, none] ds' [some (rwD (.sum k x a s b)), some (mmD false M), some (D.int (worthM M a)), some (D.int (worthM M b))])) := fun v hv => by
      rw [hv] at q
      refine c_Lsum ⟨hs, hm, hv⟩ ?_
      exact ⟨rfl, by simp [restore], q⟩
    split
    · next hz =>
      by_cases hd : s = [47] ∨ s = cRest
      · refine ⟨true, by rcases hd with rfl | rfl <;> rfl, ?_⟩
        rw [if_pos rfl]
        rw [(made_dv hd _ _).mpr hz] at q
        exact q
      · have hn : s ≠ [47] ∧ s ≠ cRest := ⟨fun z => hd (.inl z), fun z => hd (.inr z)⟩
        refine ⟨false, by rcases hs with rfl | rfl | rfl | rfl | rfl | rfl <;> first | rfl | exact absurd rfl hn.1 | exact absurd rfl hn.2, ?_⟩
        rw [if_neg (by decide)]
        obtain ⟨v, hv⟩ := made_ne hn hs (worthM M a) (worthM M b)
        exact go v hv
    · next hz =>
      cases hv : madeV s (worthM M a) (worthM M b) with
      | some v => exact go v hv
      | none =>
        exfalso
        by_cases hd : s = [47] ∨ s = cRest
        · exact hz ((made_dv hd _ _).mp hv)
        · obtain ⟨v, h⟩ := made_ne ⟨fun z => hd (.inl z), fun z => hd (.inr z)⟩ hs (worthM M a) (worthM M b)
          rw [h] at hv
          cases hv
theorem for_Lrun {rs : List Rw} {M most : Option D} {N : VEnds} {f g h i' j' : Option D} (hl : rs.length < 100000) (nd : (nums rs).Nodup) : ∀ (m i : Nat) (u : Option D), i + m = rs.length →
    (∀ u, N.nx [some (.lst false (rs.map rwD)), M, most, some (plcD true rs), u, f, g, h, i', j']) →
    vForL (vName 4) lb_Lrun0 (natsD (List.range' i m)) N [some (.lst false (rs.map rwD)), M, most, some (.dK true (natK (nums (rs.take i))) (natsD (List.range i))), u, f, g, h, i', j']
  | 0, i, u, hi, q => by
    have e : i = rs.length := by omega
    subst e
    rw [List.take_length]
    exact q u
  | m + 1, i, u, hi, q => by
    show vForL (vName 4) lb_Lrun0 (D.int (i : Int) :: natsD (List.range' (i + 1) m)) N _
    rw [e_forU lb_Lrun0.eq_1]
    have hx : rs[i]? = some rs[i] := List.getElem?_eq_getElem (by omega)
    simp! only [rws_fz, ix_rws hx, rwD_fz, num_ix, plc_put1 (num_new nd (show i < rs.length by omega)) (show (natsD (List.range i)).length < 1000000 by rw [natsD_len]; simp; omega), range_snoc, ← nums_take (show i < rs.length by omega)]
    exact for_Lrun hl nd m (i + 1) _ (by omega) q
theorem rd_Lrun : Rd 3 [true, false, true] 10 sp_Lrun t_Lrun := by
  rintro ds Q Ex hl ⟨⟨rs, M, most, res⟩, rfl, ⟨R, S, n, r⟩, q⟩
  have R : RwOk rs := R
  have S : ∀ r ∈ rs, r.sgn := S
  have few := R.few
  have r : RunsN rs most res n ⟨0, 0, M, []⟩ := r
  have q : Q (toldD res) [.lst false (rs.map rwD), mmD false M, .int most] := q
  unfold RunA.args t_Lrun
  simp! only [rws_fz, rngN, Int.toNat_natCast]
  refine ⟨by omega, by omega, ?_⟩
  rw [List.range_eq_range']
  refine for_Lrun (by omega) R.nd rs.length 0 none (by omega) fun u => ?_
  have dm : ∀ Q, sDict [mmD false M] Q ↔ Q (mmD true M) := fun Q => by unfold mmD; rw [e_dict]; exact ⟨fun h => h.2, fun h => ⟨mm_fzL M, h⟩⟩
  simp! only [mm_fz, dm]
  unfold tb_Lrun3
  simp! only []
  unfold tb_Lrun4
  simp! only []
  unfold tb_Lrun5
  simp! only []
  unfold tb_Lrun6
  simp! only []
  refine ⟨fun m ε => ∃ (pos idle : Nat) (mem : Mem) (done : List Dd) (b : Bool) (u v w : Option D), ε = [some (.lst false (rs.map rwD)), some (mmD true mem), some (.int most), some (plcD b rs), u, some (.lst true (done.map dedD)), some (.int (pos : Int)), some (.int (idle : Int)), v, w] ∧
    ((idle ≤ rs.length ∧ ∃ k, m = k + 1 ∧ RunsN rs most res k ⟨pos, idle, mem, done⟩) ∨ (idle = rs.length + 1 ∧ res = (done, cOn, mem))), ⟨n + 1, 0, 0, M, [], true, u, none, none, rfl, .inl ⟨Nat.zero_le _, n, rfl, r⟩⟩, ?_⟩
  rintro m ε ⟨pos, idle, mem, done, b, u, v, w, rfl, st⟩
  rcases st with ⟨hi, k, rfl, rn⟩ | ⟨rfl, rfl⟩
  · obtain ⟨lt, hm, hd, sm⟩ := rn.ok
    have lt : pos < rs.length := lt
    have hm : mem.length ≤ 100000 := hm
    have hd : done.length ≤ 100000 := hd
    have step := rn.inv
    obtain ⟨rw, hr⟩ : ∃ r, rs[pos]? = some r := ⟨_, List.getElem?_eq_getElem lt⟩
    simp! only [rws_fz]
    rw [if_pos (by omega)]
    unfold lb_Lrun1
    cases rw with
    | fin n => 
      rw [stepR_fin hr] at step
      have e := step_l step
      subst e
      simp! only [rws_fz, ix_rws hr, rwD_fin, mm_fz]
      exact q
    | jump n to =>
      rw [stepR_jump hr] at step
      have tm := R.tos _ (List.mem_of_getElem? hr) to (by simp [Rw.tos])
      simp! only [rws_fz, ix_rws hr, rwD_jump, plc_frz]
      refine ⟨_, ix_plc tm, rfl, ?_⟩
      by_cases h : rs.length < idle + 1
      · rw [if_pos h] at step
        have e := step_l step
        exact ⟨k, by omega, _, idle + 1, mem, done, false, _, _, _, ⟨rfl, rfl, rfl, rfl, rfl, by omega, rfl, rfl⟩, .inr ⟨by omega, e.symm⟩⟩
      · rw [if_neg h] at step
        obtain ⟨n', rfl, r'⟩ := step_r step
        exact ⟨n' + 1, by omega, _, idle + 1, mem, done, false, _, _, _, ⟨rfl, rfl, rfl, rfl, rfl, by omega, rfl, rfl⟩, .inl ⟨by omega, n', rfl, r'⟩⟩
    | sum n x a sg b =>
      rw [stepR_sum hr] at step
      have hs : Sm (worthM mem b) := sm _ _ _ _ _ hr
      have sg' := S _ (List.mem_of_getElem? hr)
      simp! only [rws_fz, ix_rws hr, rwD_sum, plc_frz, vLend, mm_frz, opD_fz, mm_fz]
      by_cases h : most ≤ done.length
      · rw [if_pos h] at step
        have e := step_l step
        subst e
        rw [if_pos h]
        exact q
      rw [if_neg h] at step ⊢
      refine c_Ldeed (r := .sum n x a sg b) ⟨rfl, sg', hs⟩ ⟨new_opt _, ?_⟩
      have e : deedR mem (.sum n x a sg b) = (madeV sg (worthM mem a) (worthM mem b)).map fun v => .sum x (worthM mem a) sg (worthM mem b) v := rfl
      cases hv : madeV sg (worthM mem a) (worthM mem b) with
      | none =>
        rw [hv] at step e
        have e2 := step_l step
        subst e2
        have e : deedR mem (.sum n x a sg b) = none := e
        simp! only [e, optDd]
        exact q
      | some v =>
        rw [hv] at step e
        obtain ⟨n', rfl, r'⟩ := step_r step
        have e : deedR mem (.sum n x a sg b) = some (.sum x (worthM mem a) sg (worthM mem b) v) := e
        simp! only [e, optDd, dedD, dedL]
        refine ⟨by omega, _, put_mm (by omega), n' + 1, by omega, pos + 1, 0, putM mem x v, done ++ [.sum x (worthM mem a) sg (worthM mem b) v], _, _, _, _, ⟨rfl, rfl, rfl, ?_, by omega, rfl, rfl, rfl⟩, .inl ⟨by omega, n', rfl, r'⟩⟩
        rw [List.map_append]
        rfl
    | test n a sg b to =>
      rw [stepR_test hr] at step
      have tm := R.tos _ (List.mem_of_getElem? hr) to (by simp [Rw.tos])
      have sg' := S _ (List.mem_of_getElem? hr)
      simp! only [rws_fz, ix_rws hr, rwD_test, plc_frz, vLend, mm_frz, opD_fz, mm_fz]
      by_cases h : most ≤ done.length
      · rw [if_pos h] at step
        have e := step_l step
        subst e
        rw [if_pos h]
        exact q
      rw [if_neg h] at step ⊢
      obtain ⟨n', rfl, r'⟩ := step_r step
      refine c_Ldeed (r := .test n a sg b to) ⟨rfl, sg', trivial⟩ ⟨new_opt _, ?_⟩
      have e : deedR mem (.test n a sg b to) = some (.test (worthM mem a) sg (worthM mem b) (holdsV sg (worthM mem a) (worthM mem b))) := rfl
      simp! only [e, optDd, dedD, dedL]
      have lst : done.map dedD ++ [D.tup [D.str [116, 101, 115, 116], D.int (worthM mem a), D.str sg, D.int (worthM mem b), D.bl (holdsV sg (worthM mem a) (worthM mem b))]] = (done ++ [Dd.test (worthM mem a) sg (worthM mem b) (holdsV sg (worthM mem a) (worthM mem b))]).map dedD := by rw [List.map_append]; rfl
      refine ⟨by omega, ?_⟩
      by_cases ht : holdsV sg (worthM mem a) (worthM mem b) = true
      · rw [if_pos ht] at r' ⊢
        exact ⟨_, ix_plc tm, rfl, n' + 1, by omega, _, 0, mem, _, false, _, _, _, ⟨rfl, rfl, rfl, lst, rfl, rfl, rfl, rfl⟩, .inl ⟨by omega, n', rfl, r'⟩⟩
      · rw [if_neg ht] at r' ⊢
        exact ⟨n' + 1, by omega, pos + 1, 0, mem, _, _, _, _, _, ⟨rfl, rfl, rfl, lst, by omega, rfl, rfl, rfl⟩, .inl ⟨by omega, n', rfl, r'⟩⟩
  · simp! only [rws_fz]
    rw [if_neg (by omega)]
    exact q
theorem rd_Lfits : Rd 2 [true, true] 2 sp_Lfits t_Lfits := by
  rintro ds Q Ex hl ⟨r, rfl, ⟨h1, h2⟩, q⟩
  have h1 : r.1.length < 1000000 := h1
  have h2 : r.2.2.length < 1000000 := h2
  have q : Q (.bl true) [stillD r, stillD r] := q
  unfold t_Lfits
  simp! only [stillD, still_fz, deds_fz, mm_fz]
  rw [if_neg (by decide)]
  refine c_Lalike rfl (deds_plN h1) ?_
  simp! only [stillD, still_fz, deds_fz, mm_fz]
  refine c_Lalike rfl (plN_str _ _) ?_
  simp! only [stillD, still_fz, deds_fz, mm_fz]
  refine c_Lsame_memory rfl h2 ?_
  simp! only []
  exact q
theorem rd_law : Rd 1 [true] 10 sp_law t_law := by
  rintro ds Q Ex hl ⟨ns, rfl, ⟨hn, hb⟩, q⟩
  have hn : ns.length ≤ 63 := hn
  have q : Q (.bl true) [scriptD ns] := q
  have fz : isFz (scriptD ns) = true := script_fz ns
  have cb := cellI_bits hb
  unfold t_law
  simp! only [fz, c_Lcell]
  unfold tb_law1
  simp! only [fz, c_Lcell, c_Lmixed]
  refine ⟨by decide, ?_⟩
  refine c_Lnames fun nm hnm nnd => ?_
  simp! only [strs_frz]
  unfold tb_law2
  obtain ⟨l4, gn⟩ := hnm
  match nm, l4 with
  | [n0, n1, n2, n3], _ => ?_
  have hnm : NmsOk [n0, n1, n2, n3] := ⟨rfl, gn⟩
  obtain ⟨N, hN⟩ : ∃ N : VEnds, N = { nx := fun ε => 1 ≤ List.length ε ∧ Q D.non (finalL [true] [scriptD ns] ε), rt := fun r ε => 1 ≤ List.length ε ∧ Q r (finalL [true] [scriptD ns] ε), rx := fun cls row ε => 1 ≤ List.length ε ∧ Ex cls row (finalL [true] [scriptD ns] ε) } := ⟨_, rfl⟩
  rw [← hN]
  simp! only [fz, slice_script, strs_fz]
  refine c_Lrows (ns := cutL ns (some 3) (some 63)) ⟨cutL_few ns 3 63, fun z hz => hb z (cutL_at hz), hnm⟩ fun rs R l61 ro => ?_
  simp! only [rws_frz]
  unfold tb_law3
  simp! only [fz, c_Lcell, strs_fz]
  refine c_Lmemory ⟨cb 1, hnm⟩ fun M mb ml => ?_
  simp! only [mm_frz]
  unfold tb_law4
  simp! only [fz, c_Lcell, c_Lmixed]
  refine ⟨by decide, ?_⟩
  obtain ⟨mo, hmo, em⟩ : ∃ mo : Nat, mo < 120 ∧ mixed (cellI ns 2) 2 % 120 = (mo : Int) := ⟨(mixed (cellI ns 2) 2 % 120).toNat, by omega, by omega⟩
  rw [em]
  obtain ⟨res, k, rn⟩ := runs_start R (B := 61) (most := mo) (M := M) (by omega) (by omega) (fun r h => (ro r h).1) mb
  unfold tb_law5
  simp! only [rws_fz, mm_fz]
  refine c_Lrun R (fun r h => (ro r h).2) rn ?_
  simp! only [told_frz]
  unfold tb_law6
  have dm : ∀ Q, sDict [mmD false M] Q ↔ Q (mmD true M) := fun Q => by unfold mmD; rw [e_dict]; exact ⟨fun h => h.2, fun h => ⟨mm_fzL M, h⟩⟩
  simp! only [rws_fz, mm_fz, dm]
  obtain ⟨s1, s2⟩ := runs_size rn
  have se : stillD res = .tup [.lst false (res.1.map dedD), .str res.2.1, mmD false res.2.2] := rfl
  unfold tb_law7
  have fl : frzL [D.lst true (rs.map rwD), mmD true M] = [.lst false (rs.map rwD), mmD false M] := by
    show [D.lst false (frzL (rs.map rwD)), frz (mmD true M)] = _
    rw [rws_frz, mm_frz]
  simp! only [vLend, fl, rws_fz, mm_fz]
  refine c_run R rn ⟨new_told res, ?_⟩
  simp! only [told_frz]
  unfold tb_law8
  simp! only [still_fz]
  refine c_Lfits rfl ⟨by omega, by omega⟩ ?_
  simp! only [still_fz, fl, rws_fz, mm_fz]
  refine c_Lalike rfl (rws_plN (by omega)) ?_
  simp! only [still_fz, fl]
  refine c_Lsame_memory rfl (by omega) ?_
  simp! only [still_fz, fl]
  unfold tb_law9
  simp! only [still_fz, fl]
  refine ⟨_, getP_ix1 rfl, _, _, rfl, ?_⟩
  rw [setP_ix1 rfl]
  unfold tb_law10
  simp! only [vClrD]
  refine ⟨_, _, getP_ix1 rfl, ?_⟩
  rw [setP_ix1 rfl]
  unfold tb_law11
  have ne01 : n1 ≠ n0 := fun z => by subst z; simp at nnd
  have e2 : [D.tup [D.int 7, D.str [115, 117, 109], D.str n0, D.int 5, D.str [43], D.str n1], D.tup [D.int 9, D.str [101, 110, 100]]] = [Rw.sum 7 n0 (.inl 5) [43] (.inr n1), .fin 9].map rwD := rfl
  have i0 : ixD (.lst false (strsD [n0, n1, n2, n3])) (.int 0) = some (.str n0) := rfl
  have i1 : ixD (.lst false (strsD [n0, n1, n2, n3])) (.int 1) = some (.str n1) := rfl
  simp! only [i0, i1]
  have R2 : RwOk [Rw.sum 7 n0 (.inl 5) [43] (.inr n1), .fin 9] := by
    refine ⟨by simp, by simp, by simp [nums, Rw.num], fun r hr t ht => ?_, fun r hr => ?_, fun k r hk hf => ?_⟩
    · simp only [List.mem_cons, List.not_mem_nil, or_false] at hr
      rcases hr with rfl | rfl <;> simp [Rw.tos] at ht
    · simp only [List.mem_cons, List.not_mem_nil, or_false] at hr
      rcases hr with rfl | rfl
      · show (Cs.good n0 && (true && (Cs.good [43] && Cs.good n1))) = true
        rw [gn n0 (by simp), gn n1 (by simp)]
        rfl
      · rfl
    · match k, hk with
      | 0, _ => simp
      | 1, hk => cases hk; cases hf
  have rn2 : RunsN [Rw.sum 7 n0 (.inl 5) [43] (.inr n1), .fin 9] 3 ([.sum n0 5 [43] 4 9], cEnd, [(n1, 4), (n0, 9)]) 1 ⟨0, 0, [(n1, 4)], []⟩ := by
    have w : worthM [(n1, 4)] (.inr n1) = 4 := by simp [worthM, lookM]
    have p : putM [(n1, 4)] n0 9 = [(n1, 4), (n0, 9)] := by simp [putM, ne01]
    refine .go (s' := ⟨1, 0, [(n1, 4), (n0, 9)], [.sum n0 5 [43] 4 9]⟩) ⟨by show 0 < 2; decide, by show 1 ≤ _; decide, by show 0 ≤ _; decide, fun n x a sg b e => ?_⟩ ?_ (.stop ⟨by show 1 < 2; decide, by show 2 ≤ _; decide, by show 1 ≤ _; decide, fun n x a sg b e => ?_⟩ (stepR_fin (n := 9) rfl))
    · cases e
      rw [show (RS.mk 0 0 [(n1, 4)] []).mem = [(n1, 4)] from rfl, w]
      decide
    · rw [stepR_sum (n := 7) (x := n0) (a := .inl 5) (sg := [43]) (b := .inr n1) rfl, w, if_neg (by decide)]
      show some (Sum.inr (RS.mk 1 0 (putM [(n1, 4)] n0 9) [.sum n0 5 [43] 4 9])) = _
      rw [p]
    · cases e
  refine ⟨[.inr n1], rfl, by simp, ?_⟩
  refine c_run (M := [(n1, 4)]) R2 rn2 ?_
  simp! only [told_frz]
  unfold tb_law12
  simp! only [i0, i1, still_fz]
  refine ⟨[.inr n1, .inr n0], rfl, by simp [ne01], ?_⟩
  refine c_Lfits (r := ([.sum n0 5 [43] 4 9], cEnd, [(n1, 4), (n0, 9)])) rfl ⟨by show 1 < 1000000; decide, by show 2 < 1000000; decide⟩ ?_
  simp! only [still_fz]
  unfold tb_law13
  simp! only [still_fz]
  refine c_run R rn ?_
  simp! only [told_frz, still_fz]
  refine c_Lfits rfl ⟨by omega, by omega⟩ ?_
  simp! only [told_frz, still_fz]
  refine c_Lfits rfl ⟨by omega, by omega⟩ ?_
  simp! only [told_frz, still_fz]
  rw [hN]
  exact ⟨by simp, q⟩
theorem law_true (ns : List Int) (hl : ns.length ≤ 63) (hb : ∀ z ∈ ns, Builtin.Int.intBits z ≤ 1048576) : sp_law [scriptD ns] (fun r _ => r = .bl true) (fun _ _ _ => False) := ⟨ns, rfl, ⟨hl, hb⟩, rfl⟩
end Pk07
namespace Pk07
open PySem PySem.Spec PyProof.Rows L2 VL
structure Hd (K : PySem.W.Frag) (mg : Str → Option Value) : Prop where
  f_Deeds_told : ∃ fd, FunD K "told" "Deeds.told" (defArgs s_Deeds_told) (defBody s_Deeds_told) (defScope s_Deeds_told) [] [] (He.ma K (He.ga K "Deeds") "told") fd
  f_Deeds_test_of : ∃ fd, FunD K "test_of" "Deeds.test_of" (defArgs s_Deeds_test_of) (defBody s_Deeds_test_of) (defScope s_Deeds_test_of) [] [] (He.ma K (He.ga K "Deeds") "test_of") fd
  f_Deeds_sum_of : ∃ fd, FunD K "sum_of" "Deeds.sum_of" (defArgs s_Deeds_sum_of) (defBody s_Deeds_sum_of) (defScope s_Deeds_sum_of) [] [] (He.ma K (He.ga K "Deeds") "sum_of") fd
  f_Deeds_name_of : ∃ fd, FunD K "name_of" "Deeds.name_of" (defArgs s_Deeds_name_of) (defBody s_Deeds_name_of) (defScope s_Deeds_name_of) [] [] (He.ma K (He.ga K "Deeds") "name_of") fd
  f_Deeds_worth_of : ∃ fd, FunD K "worth_of" "Deeds.worth_of" (defArgs s_Deeds_worth_of) (defBody s_Deeds_worth_of) (defScope s_Deeds_worth_of) [] [] (He.ma K (He.ga K "Deeds") "worth_of") fd
  f_Deeds_full : ∃ fd, FunD K "full" "Deeds.full" (defArgs s_Deeds_full) (defBody s_Deeds_full) (defScope s_Deeds_full) [] [] (He.ma K (He.ga K "Deeds") "full") fd
  f_Deeds_init : ∃ fd, FunD K "__init__" "Deeds.__init__" (defArgs s_Deeds_init) (defBody s_Deeds_init) (defScope s_Deeds_init) [] [] (He.ma K (He.ga K "Deeds") "__init__") fd
  f_made : FnAt K mg "made" s_made
  f_holds : FnAt K mg "holds" s_holds
  f_worth : FnAt K mg "worth" s_worth
  f_place_behind : FnAt K mg "place_behind" s_place_behind
  f_run : ∃ f fd, mg "run" = some (.ref f) ∧ FunD K "run" "run" (defArgs s_run) (defBody s_run) (defScope s_run) [.int 100] [] f fd
  f_Lcell : FnAt K mg "_law_cell" s_Lcell
  f_Lmixed : FnAt K mg "_law_mixed" s_Lmixed
  f_Lnames : FnAt K mg "_law_names" s_Lnames
  f_Lgreat : FnAt K mg "_law_great" s_Lgreat
  f_Loperand : FnAt K mg "_law_operand" s_Loperand
  f_Lrow : FnAt K mg "_law_row" s_Lrow
  f_Lrows : FnAt K mg "_law_rows" s_Lrows
  f_Lmemory : FnAt K mg "_law_memory" s_Lmemory
  f_Lalike : FnAt K mg "_law_alike" s_Lalike
  f_Lsame_memory : FnAt K mg "_law_same_memory" s_Lsame_memory
  f_Lworth : FnAt K mg "_law_worth" s_Lworth
  f_Lsum : FnAt K mg "_law_sum" s_Lsum
  f_Ldeed : FnAt K mg "_law_deed" s_Ldeed
  f_Lrun : FnAt K mg "_law_run" s_Lrun
  f_Lfits : FnAt K mg "_law_fits" s_Lfits
  f_law : FnAt K mg "law" s_law
  kl_Deeds : Cls K (cA K 0)
  mk_Deeds : L2.Mk K (cA K 0) (He.ma K (He.ga K "Deeds") "__init__")
  gc_Deeds : mg "Deeds" = some (.ref (cA K 0))
  na_Deeds_memory : NoAttr K (cA K 0) "memory"
  na_Deeds_done : NoAttr K (cA K 0) "done"
  na_Deeds_most : NoAttr K (cA K 0) "most"
  me_Deeds_full : Meth K (cA K 0) "full" (He.ma K (He.ga K "Deeds") "full")
  me_Deeds_worth_of : Meth K (cA K 0) "worth_of" (He.ma K (He.ga K "Deeds") "worth_of")
  me_Deeds_name_of : Meth K (cA K 0) "name_of" (He.ma K (He.ga K "Deeds") "name_of")
  me_Deeds_sum_of : Meth K (cA K 0) "sum_of" (He.ma K (He.ga K "Deeds") "sum_of")
  me_Deeds_test_of : Meth K (cA K 0) "test_of" (He.ma K (He.ga K "Deeds") "test_of")
  me_Deeds_told : Meth K (cA K 0) "told" (He.ma K (He.ga K "Deeds") "told")
  b_dict : mg "dict" = none
  b_list : mg "list" = none
  b_len : mg "len" = none
  b_divmod : mg "divmod" = none
  b_isinstance : mg "isinstance" = none
  b_str : mg "str" = none
  b_enumerate : mg "enumerate" = none
  b_range : mg "range" = none
  b_bool : mg "bool" = none
  b_int : mg "int" = none
  b_tuple : mg "tuple" = none
  b_ValueError : mg "ValueError" = none
  gx_ByNought : mg "ByNought" = some (.ref (He.ga K "ByNought"))
  ex : exOk RLx ctx ktx K = true
  ini : ∃ fd, FunD K "__init__" "JumpError.__init__" (defArgs s_ini) (defBody s_ini) (defScope s_ini) [.non] [] (fiA K) fd
theorem sc_ini : FnScope ["self", "row"] ["self", "row"] (defScope s_ini) := ⟨rfl, rfl, rfl, by decide +kernel, rfl, by decide +kernel, by decide +kernel⟩
theorem F_ini {P : Program} {w : World} {K : PySem.W.Frag} {mg : Str → Option Value} {base : Heap} (c : Hd K mg) : ExFn P w K mg base 1 :=
  ini_fn c.ini sc_ini (fun F => F.binds1 1 0 (by simp) rfl fun _ _ _ _ _ _ _ us its h1 h2 => match us, h1, its, h2 with | [_], _, [_], _ => ⟨_, rfl, rfl⟩)
    (fun cdv A outer s H E => pss_cons (ps_expr (pe_veinit rfl c.b_ValueError (exOk_g c.ex).vV (pa_cons (pe_var rfl (Or.inl rfl)) (pa_cons pe_str pa_nil)))) (pss_one (ps_ost (pe_var rfl (Or.inl rfl)) (pe_var rfl (Or.inl rfl)))))
theorem sc_Deeds_told : FnScope ["self", "word"] ["self", "word"] (defScope s_Deeds_told) := ⟨rfl, rfl, rfl, by decide +kernel, rfl, by decide +kernel, by decide +kernel⟩
theorem M_Deeds_told {P : Program} {w : World} {K : PySem.W.Frag} {mg : Str → Option Value} {base : Heap} (c : Hd K mg) : Mv P w K mg base 0 "told" 1 2 sp_Deeds_told :=
  Mv.make (κ := [true, true]) (t := t_Deeds_told) c.f_Deeds_told c.me_Deeds_told sc_Deeds_told (fun F => F.bindsN fun _ _ _ _ _ _ us hl => match us, hl with | [_, _], _ => rfl) rfl (by decide)
    (fun f cdv A outer s H E hr => let sc := sc_Deeds_told; (vss_one (vs_ret (ve_tup (va_cons (vg_val (ve_listF (i := 0) rfl (by first | exact Or.inl rfl | exact Or.inr (Or.inl rfl) | exact Or.inr (Or.inr rfl)) c.kl_Deeds c.na_Deeds_done rfl rfl c.b_list)) (va_cons (vg_val (nv 1)) (va_cons (vg_val (ve_dictF (i := 0) rfl (by first | exact Or.inl rfl | exact Or.inr (Or.inl rfl) | exact Or.inr (Or.inr rfl)) c.kl_Deeds c.na_Deeds_memory rfl rfl c.b_dict)) (va_nil)))))))) mono_Deeds_told rd_Deeds_told
theorem Mh_Deeds_told {P : Program} {w : World} {K : PySem.W.Frag} {mg : Str → Option Value} {base : Heap} (c : Hd K mg) : Mh P w K mg base 0 "told" 1 2 sp_Deeds_told :=
  Mh.make (κ := [true, true]) (t := t_Deeds_told) c.f_Deeds_told c.me_Deeds_told sc_Deeds_told (fun F => F.bindsN fun _ _ _ _ _ _ us hl => match us, hl with | [_, _], _ => rfl) rfl (by decide)
    (fun f cdv A outer s H E p hr => let sc := sc_Deeds_told; (vss_one (vs_ret (ve_tup (va_cons (vg_val (ve_listF (i := 0) rfl (by first | exact Or.inl rfl | exact Or.inr (Or.inl rfl) | exact Or.inr (Or.inr rfl)) c.kl_Deeds c.na_Deeds_done rfl rfl c.b_list)) (va_cons (vg_val (nv 1)) (va_cons (vg_val (ve_dictF (i := 0) rfl (by first | exact Or.inl rfl | exact Or.inr (Or.inl rfl) | exact Or.inr (Or.inr rfl)) c.kl_Deeds c.na_Deeds_memory rfl rfl c.b_dict)) (va_nil)))))))) mono_Deeds_told rd_Deeds_told
theorem sc_Deeds_name_of : FnScope ["self", "place"] ["self", "place"] (defScope s_Deeds_name_of) := ⟨rfl, rfl, rfl, by decide +kernel, rfl, by decide +kernel, by decide +kernel⟩
theorem M_Deeds_name_of {P : Program} {w : World} {K : PySem.W.Frag} {mg : Str → Option Value} {base : Heap} (c : Hd K mg) : Mv P w K mg base 0 "name_of" 1 2 sp_Deeds_name_of :=
  Mv.make (κ := [true, true]) (t := t_Deeds_name_of) c.f_Deeds_name_of c.me_Deeds_name_of sc_Deeds_name_of (fun F => F.bindsN fun _ _ _ _ _ _ us hl => match us, hl with | [_, _], _ => rfl) rfl (by decide)
    (fun f cdv A outer s H E hr => let sc := sc_Deeds_name_of; (vss_one (vs_ret (nv 1)))) mono_Deeds_name_of rd_Deeds_name_of
theorem sc_Deeds_full : FnScope ["self"] ["self"] (defScope s_Deeds_full) := ⟨rfl, rfl, rfl, by decide +kernel, rfl, by decide +kernel, by decide +kernel⟩
theorem M_Deeds_full {P : Program} {w : World} {K : PySem.W.Frag} {mg : Str → Option Value} {base : Heap} (c : Hd K mg) : Mv P w K mg base 0 "full" 1 1 sp_Deeds_full :=
  Mv.make (κ := [true]) (t := t_Deeds_full) c.f_Deeds_full c.me_Deeds_full sc_Deeds_full (fun F => F.bindsN fun _ _ _ _ _ _ us hl => match us, hl with | [_], _ => rfl) rfl (by decide)
    (fun f cdv A outer s H E hr => let sc := sc_Deeds_full; (vss_one (vs_ret (ve_view (wv_cmp op_ge opn_ge (wv_callB call_lenA opn_len rfl c.b_len rfl (wvs_cons (wv_fld (wv_name 0) c.kl_Deeds c.na_Deeds_done rfl) (wvs_nil))) (wv_fld (wv_name 0) c.kl_Deeds c.na_Deeds_most rfl) rfl))))) mono_Deeds_full rd_Deeds_full
theorem sc_Deeds_init : FnScope ["self", "memory", "most"] ["self", "memory", "most"] (defScope s_Deeds_init) := ⟨rfl, rfl, rfl, by decide +kernel, rfl, by decide +kernel, by decide +kernel⟩
theorem M_Deeds_init {P : Program} {w : World} {K : PySem.W.Frag} {mg : Str → Option Value} {base : Heap} (c : Hd K mg) : Nv P w K mg base 0 1 3 sp_Deeds_init :=
  Nv.make (κ := [true, true, true]) (t := t_Deeds_init) c.f_Deeds_init c.mk_Deeds sc_Deeds_init (fun F => F.bindsN fun _ _ _ _ _ _ us hl => match us, hl with | [_, _, _], _ => rfl) rfl (by decide)
    (fun f cdv A outer s H E hr => let sc := sc_Deeds_init; (vss_cons (vs_fld (i := 0) (ve_callTy call_dictD opn_dict rfl c.b_dict rfl (va_cons (vg_val (nv 1)) (va_nil))) rfl (by first | exact Or.inl rfl | exact Or.inr (Or.inl rfl) | exact Or.inr (Or.inr rfl)) c.kl_Deeds c.na_Deeds_memory rfl) (vss_cons (vs_fld (i := 0) (nv 2) rfl (by first | exact Or.inl rfl | exact Or.inr (Or.inl rfl) | exact Or.inr (Or.inr rfl)) c.kl_Deeds c.na_Deeds_most rfl) (vss_one (vs_fld (i := 0) (ve_lst (va_nil)) rfl (by first | exact Or.inl rfl | exact Or.inr (Or.inl rfl) | exact Or.inr (Or.inr rfl)) c.kl_Deeds c.na_Deeds_done rfl))))) mono_Deeds_init rd_Deeds_init
theorem sc_holds : FnScope ["sign", "one", "other"] ["sign", "one", "other"] (defScope s_holds) := ⟨rfl, rfl, rfl, by decide +kernel, rfl, by decide +kernel, by decide +kernel⟩
theorem F_holds {P : Program} {w : World} {K : PySem.W.Frag} {mg : Str → Option Value} {base : Heap} (c : Hd K mg) : Fv P w K mg base "holds" 1 3 sp_holds :=
  Fv.mk2 (κ := [true, true, true]) (t := t_holds) c.f_holds sc_holds (fun F => F.bindsN fun _ _ _ _ _ _ us hl => match us, hl with | [_, _, _], _ => rfl) rfl (by decide)
    (fun f cdv A outer s H E hr => let sc := sc_holds; (vss_cons (vs_if (vt_cmp (opr_eq hr) opn_eq (vg_val (nv 0)) (vg_val ((ve_str rfl))) rfl) (vss_one (vs_ret (ve_cmp op_lt opn_lt (vg_val (nv 1)) (vg_val (nv 2)) rfl))) (vss_nil)) (vss_one (vs_ret (ve_cmp (opr_eq hr) opn_eq (vg_val (nv 1)) (vg_val (nv 2)) rfl))))) mono_holds rd_holds
theorem sc_worth : FnScope ["operand", "memory"] ["operand", "memory"] (defScope s_worth) := ⟨rfl, rfl, rfl, by decide +kernel, rfl, by decide +kernel, by decide +kernel⟩
theorem F_worth {P : Program} {w : World} {K : PySem.W.Frag} {mg : Str → Option Value} {base : Heap} (c : Hd K mg) : Fv P w K mg base "worth" 1 2 sp_worth :=
  Fv.mk2 (κ := [true, true]) (t := t_worth) c.f_worth sc_worth (fun F => F.bindsN fun _ _ _ _ _ _ us hl => match us, hl with | [_, _], _ => rfl) rfl (by decide)
    (fun f cdv A outer s H E hr => let sc := sc_worth; (vss_cons (vs_if (vt_val (ve_callB call_isi opn_isi rfl c.b_isinstance rfl (va_cons (vg_val (nv 0)) (va_cons (vg_val ((ve_ty rfl c.b_str rfl))) (va_nil))))) (vss_one (vs_ret (ve_dget2 hr (vg_val (nv 1)) (vg_val (nv 0)) (vg_val (ve_int)) ⟨rfl, rfl, rfl, rfl⟩))) (vss_nil)) (vss_one (vs_ret (nv 0))))) mono_worth rd_worth
theorem sc_Lcell : FnScope ["_law_script", "_law_k"] ["_law_script", "_law_k"] (defScope s_Lcell) := ⟨rfl, rfl, rfl, by decide +kernel, rfl, by decide +kernel, by decide +kernel⟩
theorem F_Lcell {P : Program} {w : World} {K : PySem.W.Frag} {mg : Str → Option Value} {base : Heap} (c : Hd K mg) : Fv P w K mg base "_law_cell" 1 2 sp_Lcell :=
  Fv.mk2 (κ := [true, true]) (t := t_Lcell) c.f_Lcell sc_Lcell (fun F => F.bindsN fun _ _ _ _ _ _ us hl => match us, hl with | [_, _], _ => rfl) rfl (by decide)
    (fun f cdv A outer s H E hr => let sc := sc_Lcell; (vss_cons (vs_if (vt_cmp op_lt opn_lt (vg_val (nv 1)) (vg_val (ve_callB call_lenA opn_len rfl c.b_len rfl (va_cons (vg_val (nv 0)) (va_nil)))) rfl) (vss_one (vs_ret (ve_ix hr (vg_val (nv 0)) (vg_val (nv 1)) (fun _ _ => rfl)))) (vss_nil)) (vss_one (vs_ret (ve_int))))) mono_Lcell rd_Lcell
theorem sc_Lmixed : FnScope ["_law_cell_here", "_law_k", "_law_number"] ["_law_cell_here", "_law_k"] (defScope s_Lmixed) := ⟨rfl, rfl, rfl, by decide +kernel, rfl, by decide +kernel, by decide +kernel⟩
theorem F_Lmixed {P : Program} {w : World} {K : PySem.W.Frag} {mg : Str → Option Value} {base : Heap} (c : Hd K mg) : Fv P w K mg base "_law_mixed" 1 2 sp_Lmixed :=
  Fv.mk2 (κ := [true, true]) (t := t_Lmixed) c.f_Lmixed sc_Lmixed (fun F => F.bindsN fun _ _ _ _ _ _ us hl => match us, hl with | [_, _], _ => rfl) rfl (by decide)
    (fun f cdv A outer s H E hr => let sc := sc_Lmixed; (vss_cons (sa 2 sc.nd (ve_bin op_modN opn_mod (vg_val (ve_bin opr_add opn_add (vg_val (ve_bin opr_add opn_add (vg_val (ve_bin opr_mulA opn_mul (vg_val (ve_bin op_modN opn_mod (vg_val (nv 0)) (vg_val (ve_int)))) (vg_val (ve_int)))) (vg_val (ve_bin opr_mulA opn_mul (vg_val (ve_bin opr_mulA opn_mul (vg_val (ve_int)) (vg_val (nv 1)))) (vg_val (nv 1)))))) (vg_val (ve_int)))) (vg_val (ve_int)))) (vss_one (vs_ret (ve_bin op_modN opn_mod (vg_val (ve_bin opr_mulA opn_mul (vg_val (nv 2)) (vg_val (nv 2)))) (vg_val (ve_int))))))) mono_Lmixed rd_Lmixed
theorem sc_Lnames : FnScope ["_law_number", "_law_size", "_law_at", "_law_signs", "_law_names_here", "_law_k", "_law_sign"] ["_law_number"] (defScope s_Lnames) := ⟨rfl, rfl, rfl, by decide +kernel, rfl, by decide +kernel, by decide +kernel⟩
theorem F_Lnames {P : Program} {w : World} {K : PySem.W.Frag} {mg : Str → Option Value} {base : Heap} (c : Hd K mg) : Fv P w K mg base "_law_names" 1 1 sp_Lnames :=
  Fv.mk2 (κ := [true]) (t := t_Lnames) c.f_Lnames sc_Lnames (fun F => F.bindsN fun _ _ _ _ _ _ us hl => match us, hl with | [_], _ => rfl) rfl (by decide)
    (fun f cdv A outer s H E hr => let sc := sc_Lnames; (vss_cons (sa 1 sc.nd (ve_bin opr_add opn_add (vg_val (ve_int)) (vg_val (ve_bin op_modN opn_mod (vg_val (nv 0)) (vg_val (ve_int)))))) (vss_cons (sa 2 sc.nd (ve_bin op_modN opn_mod (vg_val (ve_bin opr_div opn_div (vg_val (nv 0)) (vg_val (ve_int)))) (vg_val (nv 1)))) (vss_cons (sa 3 sc.nd ((ve_str rfl))) (vss_cons (vs_if (vt_cmp (opr_eq hr) opn_eq (vg_val (nv 2)) (vg_val (ve_int)) rfl) (vss_one (sa 3 sc.nd (ve_still (ve_slice (vg_val (nv 3)) (vo_none) (vo_some (ve_int)))))) (vss_nil)) (vss_cons (sa 4 sc.nd (ve_lst (va_nil))) (vss_cons (vs_for (passes_of rfl) rfl (vi_range1 rfl c.b_range (va_cons (vg_val (ve_int)) (va_nil))) (tn 5 sc.nd) (vss_cons (sa 6 sc.nd (ve_ix hr (vg_val (nv 3)) (vg_val (ve_bin op_modN opn_mod (vg_val (ve_bin opr_add opn_add (vg_val (ve_bin opr_div opn_div (vg_val (nv 0)) (vg_val (ve_int)))) (vg_val (ve_bin opr_mulA opn_mul (vg_val (ve_int)) (vg_val (nv 5)))))) (vg_val (ve_callB call_lenA opn_len rfl c.b_len rfl (va_cons (vg_val (nv 3)) (va_nil)))))) (fun _ _ => rfl))) (vss_one (vs_expr (m_app 4 (va_cons (vg_val (ve_bin opr_add opn_add (vg_val (ve_bin opr_add opn_add (vg_val (ve_slice (vg_val ((ve_str rfl))) (vo_none) (vo_some (nv 2)))) (vg_val (nv 6)))) (vg_val (ve_slice (vg_val ((ve_str rfl))) (vo_some (ve_bin opr_add opn_add (vg_val (nv 2)) (vg_val (ve_int)))) (vo_some (nv 1)))))) (va_nil))))))) (vss_one (vs_ret (nm 4)))))))))) mono_Lnames rd_Lnames
theorem sc_Lgreat : FnScope ["_law_number"] ["_law_number"] (defScope s_Lgreat) := ⟨rfl, rfl, rfl, by decide +kernel, rfl, by decide +kernel, by decide +kernel⟩
theorem F_Lgreat {P : Program} {w : World} {K : PySem.W.Frag} {mg : Str → Option Value} {base : Heap} (c : Hd K mg) : Fv P w K mg base "_law_great" 1 1 sp_Lgreat :=
  Fv.mk2 (κ := [true]) (t := t_Lgreat) c.f_Lgreat sc_Lgreat (fun F => F.bindsN fun _ _ _ _ _ _ us hl => match us, hl with | [_], _ => rfl) rfl (by decide)
    (fun f cdv A outer s H E hr => let sc := sc_Lgreat; (vss_one (vs_ret (ve_bin op_sub opn_sub (vg_val (ve_bin op_modN opn_mod (vg_val (ve_bin opr_mulA opn_mul (vg_val (nv 0)) (vg_val (ve_bin op_pow opn_pow (vg_val (ve_int)) (vg_val (ve_int)))))) (vg_val (ve_bin opr_add opn_add (vg_val (ve_bin opr_mulA opn_mul (vg_val (ve_int)) (vg_val (ve_bin op_pow opn_pow (vg_val (ve_int)) (vg_val (ve_int)))))) (vg_val (ve_int)))))) (vg_val (ve_bin op_pow opn_pow (vg_val (ve_int)) (vg_val (ve_int)))))))) mono_Lgreat rd_Lgreat
theorem sc_Lworth : FnScope ["_law_operand_here", "_law_memory_here"] ["_law_operand_here", "_law_memory_here"] (defScope s_Lworth) := ⟨rfl, rfl, rfl, by decide +kernel, rfl, by decide +kernel, by decide +kernel⟩
theorem F_Lworth {P : Program} {w : World} {K : PySem.W.Frag} {mg : Str → Option Value} {base : Heap} (c : Hd K mg) : Fv P w K mg base "_law_worth" 1 2 sp_Lworth :=
  Fv.mk2 (κ := [true, true]) (t := t_Lworth) c.f_Lworth sc_Lworth (fun F => F.bindsN fun _ _ _ _ _ _ us hl => match us, hl with | [_, _], _ => rfl) rfl (by decide)
    (fun f cdv A outer s H E hr => let sc := sc_Lworth; (vss_cons (vs_if (vt_val (ve_callB call_isi opn_isi rfl c.b_isinstance rfl (va_cons (vg_val (nv 0)) (va_cons (vg_val ((ve_ty rfl c.b_str rfl))) (va_nil))))) (vss_one (vs_ret (ve_dget2 hr (vg_val (nv 1)) (vg_val (nv 0)) (vg_val (ve_int)) ⟨rfl, rfl, rfl, rfl⟩))) (vss_nil)) (vss_one (vs_ret (nv 0))))) mono_Lworth rd_Lworth
theorem sc_Lsum : FnScope ["_law_sign", "_law_one", "_law_other"] ["_law_sign", "_law_one", "_law_other"] (defScope s_Lsum) := ⟨rfl, rfl, rfl, by decide +kernel, rfl, by decide +kernel, by decide +kernel⟩
theorem F_Lsum {P : Program} {w : World} {K : PySem.W.Frag} {mg : Str → Option Value} {base : Heap} (c : Hd K mg) : Fv P w K mg base "_law_sum" 1 3 sp_Lsum :=
  Fv.mk2 (κ := [true, true, true]) (t := t_Lsum) c.f_Lsum sc_Lsum (fun F => F.bindsN fun _ _ _ _ _ _ us hl => match us, hl with | [_, _, _], _ => rfl) rfl (by decide)
    (fun f cdv A outer s H E hr => let sc := sc_Lsum; (vss_cons (vs_if (vt_cmp (opr_eq hr) opn_eq (vg_val (nv 0)) (vg_val ((ve_str rfl))) rfl) (vss_one (vs_ret (ve_bin opr_add opn_add (vg_val (nv 1)) (vg_val (nv 2))))) (vss_nil)) (vss_cons (vs_if (vt_cmp (opr_eq hr) opn_eq (vg_val (nv 0)) (vg_val ((ve_str rfl))) rfl) (vss_one (vs_ret (ve_bin op_sub opn_sub (vg_val (nv 1)) (vg_val (nv 2))))) (vss_nil)) (vss_cons (vs_if (vt_cmp (opr_eq hr) opn_eq (vg_val (nv 0)) (vg_val ((ve_str rfl))) rfl) (vss_one (vs_ret (ve_bin opr_div opn_div (vg_val (nv 1)) (vg_val (nv 2))))) (vss_nil)) (vss_cons (vs_if (vt_cmp (opr_eq hr) opn_eq (vg_val (nv 0)) (vg_val ((ve_str rfl))) rfl) (vss_one (vs_ret (ve_bin op_modN opn_mod (vg_val (nv 1)) (vg_val (nv 2))))) (vss_nil)) (vss_cons (vs_if (vt_cmp (opr_eq hr) opn_eq (vg_val (nv 0)) (vg_val ((ve_str rfl))) rfl) (vss_one (vs_ret (ve_bin op_and opn_and (vg_val (nv 1)) (vg_val (nv 2))))) (vss_nil)) (vss_one (vs_ret (ve_bin op_xor opn_xor (vg_val (nv 1)) (vg_val (nv 2))))))))))) mono_Lsum rd_Lsum
theorem sc_Deeds_worth_of : FnScope ["self", "operand"] ["self", "operand"] (defScope s_Deeds_worth_of) := ⟨rfl, rfl, rfl, by decide +kernel, rfl, by decide +kernel, by decide +kernel⟩
theorem M_Deeds_worth_of {P : Program} {w : World} {K : PySem.W.Frag} {mg : Str → Option Value} {base : Heap} (c : Hd K mg) : Mv P w K mg base 0 "worth_of" 2 2 sp_Deeds_worth_of :=
  Mv.make (κ := [true, true]) (t := t_Deeds_worth_of) c.f_Deeds_worth_of c.me_Deeds_worth_of sc_Deeds_worth_of (fun F => F.bindsN fun _ _ _ _ _ _ us hl => match us, hl with | [_, _], _ => rfl) rfl (by decide)
    (fun f cdv A outer s H E hr => let sc := sc_Deeds_worth_of; (vss_one (vs_ret (ve_view (wv_call (F_worth c) mono_worth (hr.mono (by omega)) rfl rfl (wvs_cons (wv_name 1) (wvs_cons (wv_fld (wv_name 0) c.kl_Deeds c.na_Deeds_memory rfl) (wvs_nil)))))))) mono_Deeds_worth_of rd_Deeds_worth_of
theorem sc_Loperand : FnScope ["_law_number", "_law_cell_here", "_law_names_here"] ["_law_number", "_law_cell_here", "_law_names_here"] (defScope s_Loperand) := ⟨rfl, rfl, rfl, by decide +kernel, rfl, by decide +kernel, by decide +kernel⟩
theorem F_Loperand {P : Program} {w : World} {K : PySem.W.Frag} {mg : Str → Option Value} {base : Heap} (c : Hd K mg) : Fv P w K mg base "_law_operand" 2 3 sp_Loperand :=
  Fv.mk2 (κ := [true, true, true]) (t := t_Loperand) c.f_Loperand sc_Loperand (fun F => F.bindsN fun _ _ _ _ _ _ us hl => match us, hl with | [_, _, _], _ => rfl) rfl (by decide)
    (fun f cdv A outer s H E hr => let sc := sc_Loperand; (vss_cons (vs_if (vt_cmp (opr_eq hr) opn_eq (vg_val (ve_bin op_modN opn_mod (vg_val (nv 0)) (vg_val (ve_int)))) (vg_val (ve_int)) rfl) (vss_one (vs_ret (ve_call (F_Lgreat c) mono_Lgreat (hr.mono (by omega)) rfl rfl (va_cons (vg_val (ve_bin opr_add opn_add (vg_val (nv 1)) (vg_val (nv 0)))) (va_nil))))) (vss_nil)) (vss_cons (vs_if (vt_cmp op_lt opn_lt (vg_val (ve_bin op_modN opn_mod (vg_val (nv 0)) (vg_val (ve_int)))) (vg_val (ve_int)) rfl) (vss_one (vs_ret (ve_bin op_sub opn_sub (vg_val (ve_bin op_modN opn_mod (vg_val (ve_bin opr_div opn_div (vg_val (nv 0)) (vg_val (ve_int)))) (vg_val (ve_int)))) (vg_val (ve_int))))) (vss_nil)) (vss_one (vs_ret (ve_ix hr (vg_val (nv 2)) (vg_val (ve_bin op_modN opn_mod (vg_val (ve_bin opr_div opn_div (vg_val (nv 0)) (vg_val (ve_int)))) (vg_val (ve_int)))) (fun _ _ => rfl))))))) mono_Loperand rd_Loperand
theorem sc_Lmemory : FnScope ["_law_cell_here", "_law_names_here", "_law_memory_here", "_law_k", "_law_number"] ["_law_cell_here", "_law_names_here"] (defScope s_Lmemory) := ⟨rfl, rfl, rfl, by decide +kernel, rfl, by decide +kernel, by decide +kernel⟩
theorem F_Lmemory {P : Program} {w : World} {K : PySem.W.Frag} {mg : Str → Option Value} {base : Heap} (c : Hd K mg) : Fv P w K mg base "_law_memory" 2 2 sp_Lmemory :=
  Fv.mk2 (κ := [true, true]) (t := t_Lmemory) c.f_Lmemory sc_Lmemory (fun F => F.bindsN fun _ _ _ _ _ _ us hl => match us, hl with | [_, _], _ => rfl) rfl (by decide)
    (fun f cdv A outer s H E hr => let sc := sc_Lmemory; (vss_cons (sa 2 sc.nd (ve_dK)) (vss_cons (vs_for (passes_of rfl) rfl (vi_range1 rfl c.b_range (va_cons (vg_val (ve_int)) (va_nil))) (tn 3 sc.nd) (vss_cons (sa 4 sc.nd (ve_call (F_Lmixed c) mono_Lmixed (hr.mono (by omega)) rfl rfl (va_cons (vg_val (nv 0)) (va_cons (vg_val (nv 3)) (va_nil))))) (vss_cons (vs_if (vt_cmp (opr_eq hr) opn_eq (vg_val (ve_bin op_modN opn_mod (vg_val (nv 4)) (vg_val (ve_int)))) (vg_val (ve_int)) rfl) (vss_one (vs_set hr (ve_call (F_Lgreat c) mono_Lgreat (hr.mono (by omega)) rfl rfl (va_cons (vg_val (ve_bin opr_add opn_add (vg_val (nv 0)) (vg_val (nv 4)))) (va_nil))) (np 2) (vq_ix hr (nq 1) (nq 3) (fun _ _ => rfl)))) (vss_nil)) (vss_one (vs_if (vt_cmp op_gt opn_gt (vg_val (ve_bin op_modN opn_mod (vg_val (nv 4)) (vg_val (ve_int)))) (vg_val (ve_int)) rfl) (vss_one (vs_set hr (ve_bin op_sub opn_sub (vg_val (ve_bin op_modN opn_mod (vg_val (ve_bin opr_div opn_div (vg_val (nv 4)) (vg_val (ve_int)))) (vg_val (ve_int)))) (vg_val (ve_int))) (np 2) (vq_ix hr (nq 1) (nq 3) (fun _ _ => rfl)))) (vss_nil)))))) (vss_one (vs_ret (nm 2)))))) mono_Lmemory rd_Lmemory
theorem sc_Ldeed : FnScope ["_law_row_here", "_law_memory_here", "_law_one", "_law_other"] ["_law_row_here", "_law_memory_here"] (defScope s_Ldeed) := ⟨rfl, rfl, rfl, by decide +kernel, rfl, by decide +kernel, by decide +kernel⟩
theorem F_Ldeed {P : Program} {w : World} {K : PySem.W.Frag} {mg : Str → Option Value} {base : Heap} (c : Hd K mg) : Fv P w K mg base "_law_deed" 2 2 sp_Ldeed :=
  Fv.mk2 (κ := [true, true]) (t := t_Ldeed) c.f_Ldeed sc_Ldeed (fun F => F.bindsN fun _ _ _ _ _ _ us hl => match us, hl with | [_, _], _ => rfl) rfl (by decide)
    (fun f cdv A outer s H E hr => let sc := sc_Ldeed; (vss_cons (vs_if (vt_cmp (opr_eq hr) opn_eq (vg_val (ve_ix hr (vg_val (nv 0)) (vg_val (ve_int)) (fun _ _ => rfl))) (vg_val ((ve_str rfl))) rfl) (vss_cons (sa 2 sc.nd (ve_call (F_Lworth c) mono_Lworth (hr.mono (by omega)) rfl rfl (va_cons (vg_val (ve_ix hr (vg_val (nv 0)) (vg_val (ve_int)) (fun _ _ => rfl))) (va_cons (vg_val (nv 1)) (va_nil))))) (vss_cons (sa 3 sc.nd (ve_call (F_Lworth c) mono_Lworth (hr.mono (by omega)) rfl rfl (va_cons (vg_val (ve_ix hr (vg_val (nv 0)) (vg_val (ve_int)) (fun _ _ => rfl))) (va_cons (vg_val (nv 1)) (va_nil))))) (vss_one (vs_ret (ve_tup (va_cons (vg_val ((ve_str rfl))) (va_cons (vg_val (nv 2)) (va_cons (vg_val (ve_ix hr (vg_val (nv 0)) (vg_val (ve_int)) (fun _ _ => rfl))) (va_cons (vg_val (nv 3)) (va_cons (vg_val (ve_or (ve_and (ve_cmp (opr_eq hr) opn_eq (vg_val (ve_ix hr (vg_val (nv 0)) (vg_val (ve_int)) (fun _ _ => rfl))) (vg_val ((ve_str rfl))) rfl) (ve_one (ve_cmp op_lt opn_lt (vg_val (nv 2)) (vg_val (nv 3)) rfl))) (ve_one (ve_and (ve_cmp (opr_eq hr) opn_eq (vg_val (ve_ix hr (vg_val (nv 0)) (vg_val (ve_int)) (fun _ _ => rfl))) (vg_val ((ve_str rfl))) rfl) (ve_one (ve_cmp (opr_eq hr) opn_eq (vg_val (nv 2)) (vg_val (nv 3)) rfl)))))) (va_nil))))))))))) (vss_nil)) (vss_cons (sa 2 sc.nd (ve_call (F_Lworth c) mono_Lworth (hr.mono (by omega)) rfl rfl (va_cons (vg_val (ve_ix hr (vg_val (nv 0)) (vg_val (ve_int)) (fun _ _ => rfl))) (va_cons (vg_val (nv 1)) (va_nil))))) (vss_cons (sa 3 sc.nd (ve_call (F_Lworth c) mono_Lworth (hr.mono (by omega)) rfl rfl (va_cons (vg_val (ve_ix hr (vg_val (nv 0)) (vg_val (ve_int)) (fun _ _ => rfl))) (va_cons (vg_val (nv 1)) (va_nil))))) (vss_cons (vs_if (vt_w (vw_and (vt_cmp (opr_eq hr) opn_eq (vg_val (nv 3)) (vg_val (ve_int)) rfl) (vw_and1 (vt_cmp (opr_in hr) opn_in (vg_val (ve_ix hr (vg_val (nv 0)) (vg_val (ve_int)) (fun _ _ => rfl))) (vg_val (ve_lst (va_cons (vg_val ((ve_str rfl))) (va_cons (vg_val ((ve_str rfl))) (va_nil))))) rfl)))) (vss_one (vs_ret (ve_non))) (vss_nil)) (vss_one (vs_ret (ve_tup (va_cons (vg_val ((ve_str rfl))) (va_cons (vg_val (ve_ix hr (vg_val (nv 0)) (vg_val (ve_int)) (fun _ _ => rfl))) (va_cons (vg_val (nv 2)) (va_cons (vg_val (ve_ix hr (vg_val (nv 0)) (vg_val (ve_int)) (fun _ _ => rfl))) (va_cons (vg_val (nv 3)) (va_cons (vg_val (ve_call (F_Lsum c) mono_Lsum (hr.mono (by omega)) rfl rfl (va_cons (vg_val (ve_ix hr (vg_val (nv 0)) (vg_val (ve_int)) (fun _ _ => rfl))) (va_cons (vg_val (nv 2)) (va_cons (vg_val (nv 3)) (va_nil)))))) (va_nil))))))))))))))) mono_Ldeed rd_Ldeed
theorem sc_Deeds_test_of : FnScope ["self", "one", "sign", "other", "here", "there", "truth"] ["self", "one", "sign", "other"] (defScope s_Deeds_test_of) := ⟨rfl, rfl, rfl, by decide +kernel, rfl, by decide +kernel, by decide +kernel⟩
theorem M_Deeds_test_of {P : Program} {w : World} {K : PySem.W.Frag} {mg : Str → Option Value} {base : Heap} (c : Hd K mg) : Mv P w K mg base 0 "test_of" 3 4 sp_Deeds_test_of :=
  Mv.make (κ := [true, true, true, true]) (t := t_Deeds_test_of) c.f_Deeds_test_of c.me_Deeds_test_of sc_Deeds_test_of (fun F => F.bindsN fun _ _ _ _ _ _ us hl => match us, hl with | [_, _, _, _], _ => rfl) rfl (by decide)
    (fun f cdv A outer s H E hr => let sc := sc_Deeds_test_of; (vss_cons (sa 4 sc.nd (ve_meth (i := 0) (M_Deeds_worth_of c) mono_Deeds_worth_of c.kl_Deeds rfl (hr.mono (by omega)) rfl (by first | exact Or.inl rfl | exact Or.inr (Or.inl rfl) | exact Or.inr (Or.inr rfl)) rfl (va_cons (vg_val (nv 1)) (va_nil)))) (vss_cons (sa 5 sc.nd (ve_meth (i := 0) (M_Deeds_worth_of c) mono_Deeds_worth_of c.kl_Deeds rfl (hr.mono (by omega)) rfl (by first | exact Or.inl rfl | exact Or.inr (Or.inl rfl) | exact Or.inr (Or.inr rfl)) rfl (va_cons (vg_val (nv 3)) (va_nil)))) (vss_cons (sa 6 sc.nd (ve_call (F_holds c) mono_holds (hr.mono (by omega)) rfl rfl (va_cons (vg_val (nv 2)) (va_cons (vg_val (nv 4)) (va_cons (vg_val (nv 5)) (va_nil)))))) (vss_cons (vs_expr (mp_app (vp_fd (np 0) c.kl_Deeds c.na_Deeds_done rfl) (vaq_cons (vq_tup (vaq_cons ((vq_str rfl)) (vaq_cons (nq 4) (vaq_cons (nq 2) (vaq_cons (nq 5) (vaq_cons (nq 6) (vaq_nil))))))) (vaq_nil)))) (vss_one (vs_ret (nv 6)))))))) mono_Deeds_test_of rd_Deeds_test_of
theorem sc_made : FnScope ["sign", "one", "other", "quotient", "rest"] ["sign", "one", "other"] (defScope s_made) := ⟨rfl, rfl, rfl, by decide +kernel, rfl, by decide +kernel, by decide +kernel⟩
theorem F_made {P : Program} {w : World} {K : PySem.W.Frag} {mg : Str → Option Value} {base : Heap} (c : Hd K mg) : Fv P w K mg base "made" 3 3 sp_made :=
  Fv.mk2 (κ := [true, true, true]) (t := t_made) c.f_made sc_made (fun F => F.bindsN fun _ _ _ _ _ _ us hl => match us, hl with | [_, _, _], _ => rfl) rfl (by decide)
    (fun f cdv A outer s H E hr => let sc := sc_made; (vss_cons (vs_if (vt_cmp (opr_eq hr) opn_eq (vg_val (nv 0)) (vg_val ((ve_str rfl))) rfl) (vss_one (vs_ret (ve_bin opr_add opn_add (vg_val (nv 1)) (vg_val (nv 2))))) (vss_nil)) (vss_cons (vs_if (vt_cmp (opr_eq hr) opn_eq (vg_val (nv 0)) (vg_val ((ve_str rfl))) rfl) (vss_one (vs_ret (ve_bin op_sub opn_sub (vg_val (nv 1)) (vg_val (nv 2))))) (vss_nil)) (vss_cons (vs_if (vt_cmp (opr_eq hr) opn_eq (vg_val (nv 0)) (vg_val ((ve_str rfl))) rfl) (vss_one (vs_ret (ve_bin op_and opn_and (vg_val (nv 1)) (vg_val (nv 2))))) (vss_nil)) (vss_cons (vs_if (vt_cmp (opr_eq hr) opn_eq (vg_val (nv 0)) (vg_val ((ve_str rfl))) rfl) (vss_one (vs_ret (ve_bin op_xor opn_xor (vg_val (nv 1)) (vg_val (nv 2))))) (vss_nil)) (vss_cons (vs_if (vt_cmp (opr_eq hr) opn_eq (vg_val (nv 2)) (vg_val (ve_int)) rfl) (vss_one (vs_raise (s := "ByNought") rfl (F_ini (P := P) (w := w) (base := base) c) (exOk_g c.ex) (exOk_o c.ex "ByNought" (by decide)) rfl (hr.mono (by omega)) rfl c.gx_ByNought)) (vss_nil)) (vss_cons (vs_asgT (ve_callB call_divmodA opn_divmod rfl c.b_divmod rfl (va_cons (vg_val (nv 1)) (va_cons (vg_val (nv 2)) (va_nil)))) (vt_names (n := 0) rfl (vns_cons (i := 3) sc.nd rfl (by first | exact Or.inl rfl | exact Or.inr rfl) (ne_of_beq_false rfl) (vns_cons (i := 4) sc.nd rfl (by first | exact Or.inl rfl | exact Or.inr rfl) (ne_of_beq_false rfl) (vns_nil))))) (vss_cons (vs_if (vt_cmp (opr_eq hr) opn_eq (vg_val (nv 0)) (vg_val ((ve_str rfl))) rfl) (vss_one (vs_ret (nv 3))) (vss_nil)) (vss_one (vs_ret (nv 4))))))))))) mono_made rd_made
theorem sc_Lrow : FnScope ["_law_cell_here", "_law_k", "_law_numbers", "_law_names_here", "_law_number", "_law_one", "_law_other", "_law_to", "_law_sign"] ["_law_cell_here", "_law_k", "_law_numbers", "_law_names_here"] (defScope s_Lrow) := ⟨rfl, rfl, rfl, by decide +kernel, rfl, by decide +kernel, by decide +kernel⟩
theorem F_Lrow {P : Program} {w : World} {K : PySem.W.Frag} {mg : Str → Option Value} {base : Heap} (c : Hd K mg) : Fv P w K mg base "_law_row" 3 4 sp_Lrow :=
  Fv.mk2 (κ := [true, true, true, true]) (t := t_Lrow) c.f_Lrow sc_Lrow (fun F => F.bindsN fun _ _ _ _ _ _ us hl => match us, hl with | [_, _, _, _], _ => rfl) rfl (by decide)
    (fun f cdv A outer s H E hr => let sc := sc_Lrow; (vss_cons (sa 4 sc.nd (ve_call (F_Lmixed c) mono_Lmixed (hr.mono (by omega)) rfl rfl (va_cons (vg_val (nv 0)) (va_cons (vg_val (nv 1)) (va_nil))))) (vss_cons (sa 5 sc.nd (ve_call (F_Loperand c) mono_Loperand (hr.mono (by omega)) rfl rfl (va_cons (vg_val (ve_bin opr_div opn_div (vg_val (nv 4)) (vg_val (ve_int)))) (va_cons (vg_val (nv 0)) (va_cons (vg_val (nv 3)) (va_nil)))))) (vss_cons (sa 6 sc.nd (ve_call (F_Loperand c) mono_Loperand (hr.mono (by omega)) rfl rfl (va_cons (vg_val (ve_bin opr_div opn_div (vg_val (nv 4)) (vg_val (ve_int)))) (va_cons (vg_val (ve_bin opr_div opn_div (vg_val (nv 0)) (vg_val (ve_int)))) (va_cons (vg_val (nv 3)) (va_nil)))))) (vss_cons (sa 7 sc.nd (ve_ix hr (vg_val (nv 2)) (vg_val (ve_bin op_modN opn_mod (vg_val (ve_bin opr_div opn_div (vg_val (nv 4)) (vg_val (ve_int)))) (vg_val (ve_callB call_lenA opn_len rfl c.b_len rfl (va_cons (vg_val (nv 2)) (va_nil)))))) (fun _ _ => rfl))) (vss_cons (vs_if (vt_cmp op_lt opn_lt (vg_val (ve_bin op_modN opn_mod (vg_val (nv 4)) (vg_val (ve_int)))) (vg_val (ve_int)) rfl) (vss_cons (sa 8 sc.nd (ve_ix hr (vg_val (ve_lst (va_cons (vg_val ((ve_str rfl))) (va_cons (vg_val ((ve_str rfl))) (va_cons (vg_val ((ve_str rfl))) (va_cons (vg_val ((ve_str rfl))) (va_cons (vg_val ((ve_str rfl))) (va_cons (vg_val ((ve_str rfl))) (va_nil))))))))) (vg_val (ve_bin op_modN opn_mod (vg_val (ve_bin opr_div opn_div (vg_val (nv 4)) (vg_val (ve_int)))) (vg_val (ve_int)))) (fun _ _ => rfl))) (vss_one (vs_ret (ve_tup (va_cons (vg_val (ve_ix hr (vg_val (nv 2)) (vg_val (nv 1)) (fun _ _ => rfl))) (va_cons (vg_val ((ve_str rfl))) (va_cons (vg_val (ve_ix hr (vg_val (nv 3)) (vg_val (ve_bin op_modN opn_mod (vg_val (ve_bin opr_div opn_div (vg_val (nv 4)) (vg_val (ve_int)))) (vg_val (ve_int)))) (fun _ _ => rfl))) (va_cons (vg_val (nv 5)) (va_cons (vg_val (nv 8)) (va_cons (vg_val (nv 6)) (va_nil))))))))))) (vss_nil)) (vss_cons (vs_if (vt_cmp op_lt opn_lt (vg_val (ve_bin op_modN opn_mod (vg_val (nv 4)) (vg_val (ve_int)))) (vg_val (ve_int)) rfl) (vss_one (vs_ret (ve_tup (va_cons (vg_val (ve_ix hr (vg_val (nv 2)) (vg_val (nv 1)) (fun _ _ => rfl))) (va_cons (vg_val ((ve_str rfl))) (va_cons (vg_val (nv 5)) (va_cons (vg_val (ve_ix hr (vg_val (ve_lst (va_cons (vg_val ((ve_str rfl))) (va_cons (vg_val ((ve_str rfl))) (va_nil))))) (vg_val (ve_bin op_modN opn_mod (vg_val (ve_bin opr_div opn_div (vg_val (nv 4)) (vg_val (ve_int)))) (vg_val (ve_int)))) (fun _ _ => rfl))) (va_cons (vg_val (nv 6)) (va_cons (vg_val (nv 7)) (va_nil)))))))))) (vss_nil)) (vss_cons (vs_if (vt_cmp op_lt opn_lt (vg_val (ve_bin op_modN opn_mod (vg_val (nv 4)) (vg_val (ve_int)))) (vg_val (ve_int)) rfl) (vss_one (vs_ret (ve_tup (va_cons (vg_val (ve_ix hr (vg_val (nv 2)) (vg_val (nv 1)) (fun _ _ => rfl))) (va_cons (vg_val ((ve_str rfl))) (va_cons (vg_val (nv 7)) (va_nil))))))) (vss_nil)) (vss_one (vs_ret (ve_tup (va_cons (vg_val (ve_ix hr (vg_val (nv 2)) (vg_val (nv 1)) (fun _ _ => rfl))) (va_cons (vg_val ((ve_str rfl))) (va_nil)))))))))))))) mono_Lrow rd_Lrow
theorem sc_Lrun : FnScope ["_law_rows_here", "_law_memory_here", "_law_most", "_law_places", "_law_k", "_law_deeds", "_law_at", "_law_idle", "_law_row_here", "_law_deed_here"] ["_law_rows_here", "_law_memory_here", "_law_most"] (defScope s_Lrun) := ⟨rfl, rfl, rfl, by decide +kernel, rfl, by decide +kernel, by decide +kernel⟩
theorem F_Lrun {P : Program} {w : World} {K : PySem.W.Frag} {mg : Str → Option Value} {base : Heap} (c : Hd K mg) : Fv P w K mg base "_law_run" 3 3 sp_Lrun :=
  Fv.mk2 (κ := [true, false, true]) (t := t_Lrun) c.f_Lrun sc_Lrun (fun F => F.bindsN fun _ _ _ _ _ _ us hl => match us, hl with | [_, _, _], _ => rfl) rfl (by decide)
    (fun f cdv A outer s H E hr => let sc := sc_Lrun; (vss_cons (sa 3 sc.nd (ve_dK)) (vss_cons (vs_for (passes_of rfl) rfl (vi_range1 rfl c.b_range (va_cons (vg_val (ve_callB call_lenA opn_len rfl c.b_len rfl (va_cons (vg_val (nv 0)) (va_nil)))) (va_nil))) (tn 4 sc.nd) (vss_one (vs_set hr (nv 4) (np 3) (vq_ix hr (vq_ix hr (nq 0) (nq 4) (fun _ _ => rfl)) (vq_int) (fun _ _ => rfl))))) (vss_cons (sa 1 sc.nd (ve_callTy call_dictD opn_dict rfl c.b_dict rfl (al 1 (va_nil)))) (vss_cons (sa 5 sc.nd (ve_lst (va_nil))) (vss_cons (sa 6 sc.nd (ve_int)) (vss_cons (sa 7 sc.nd (ve_int)) (vss_cons (vs_while (passes_of rfl) (vt_cmp op_le opn_le (vg_val (nv 7)) (vg_val (ve_callB call_lenA opn_len rfl c.b_len rfl (va_cons (vg_val (nv 0)) (va_nil)))) rfl) (vss_cons (sa 8 sc.nd (ve_ix hr (vg_val (nv 0)) (vg_val (nv 6)) (fun _ _ => rfl))) (vss_cons (sa 7 sc.nd (ve_bin opr_add opn_add (vg_val (nv 7)) (vg_val (ve_int)))) (vss_cons (vs_if (vt_cmp (opr_eq hr) opn_eq (vg_val (ve_ix hr (vg_val (nv 8)) (vg_val (ve_int)) (fun _ _ => rfl))) (vg_val ((ve_str rfl))) rfl) (vss_one (vs_ret (ve_tup (al 5 (va_cons (vg_val ((ve_str rfl))) (al 1 (va_nil))))))) (vss_nil)) (vss_cons (vs_if (vt_cmp (opr_eq hr) opn_eq (vg_val (ve_ix hr (vg_val (nv 8)) (vg_val (ve_int)) (fun _ _ => rfl))) (vg_val ((ve_str rfl))) rfl) (vss_cons (sa 6 sc.nd (ve_ix hr (vg_val (nf 3)) (vg_val (ve_ix hr (vg_val (nv 8)) (vg_val (ve_int)) (fun _ _ => rfl))) (fun _ _ => rfl))) (vss_one (vs_cnt))) (vss_nil)) (vss_cons (vs_if (vt_cmpW op_ge opn_ge (wv_callB call_lenA opn_len rfl c.b_len rfl (wvs_cons (wv_name 5) (wvs_nil))) (wv_name 2) rfl) (vss_one (vs_ret (ve_tup (al 5 (va_cons (vg_val ((ve_str rfl))) (al 1 (va_nil))))))) (vss_nil)) (vss_cons (sa 7 sc.nd (ve_int)) (vss_cons (sa 9 sc.nd (ve_lend (F_Ldeed c) mono_Ldeed (hr.mono (by omega)) rfl rfl (wvs_cons (wv_name 8) (wvs_cons (wv_name 1) (wvs_nil))))) (vss_cons (vs_if (vt_cmp op_isN opn_isN (vg_val (nv 9)) (vg_val ve_non) rfl) (vss_one (vs_ret (ve_tup (al 5 (va_cons (vg_val ((ve_str rfl))) (al 1 (va_nil))))))) (vss_nil)) (vss_cons (vs_expr (m_app 5 (va_cons (vg_val (nv 9)) (va_nil)))) (vss_cons (sa 6 sc.nd (ve_bin opr_add opn_add (vg_val (nv 6)) (vg_val (ve_int)))) (vss_one (vs_if (vt_cmp (opr_eq hr) opn_eq (vg_val (ve_ix hr (vg_val (nv 8)) (vg_val (ve_int)) (fun _ _ => rfl))) (vg_val ((ve_str rfl))) rfl) (vss_one (vs_set hr (ve_ix hr (vg_val (nv 9)) (vg_val (ve_int)) (fun _ _ => rfl)) (np 1) (vq_ix hr (nq 8) (vq_int) (fun _ _ => rfl)))) (vss_one (vs_if (vt_val (ve_ix hr (vg_val (nv 9)) (vg_val (ve_int)) (fun _ _ => rfl))) (vss_one (sa 6 sc.nd (ve_ix hr (vg_val (nf 3)) (vg_val (ve_ix hr (vg_val (nv 8)) (vg_val (ve_int)) (fun _ _ => rfl))) (fun _ _ => rfl)))) (vss_nil)))))))))))))))) (vss_one (vs_ret (ve_tup (al 5 (va_cons (vg_val ((ve_str rfl))) (al 1 (va_nil))))))))))))))) mono_Lrun rd_Lrun
theorem sc_Deeds_sum_of : FnScope ["self", "place", "one", "sign", "other", "here", "there", "found"] ["self", "place", "one", "sign", "other"] (defScope s_Deeds_sum_of) := ⟨rfl, rfl, rfl, by decide +kernel, rfl, by decide +kernel, by decide +kernel⟩
theorem M_Deeds_sum_of {P : Program} {w : World} {K : PySem.W.Frag} {mg : Str → Option Value} {base : Heap} (c : Hd K mg) : Mv P w K mg base 0 "sum_of" 4 5 sp_Deeds_sum_of :=
  Mv.make (κ := [true, true, true, true, true]) (t := t_Deeds_sum_of) c.f_Deeds_sum_of c.me_Deeds_sum_of sc_Deeds_sum_of (fun F => F.bindsN fun _ _ _ _ _ _ us hl => match us, hl with | [_, _, _, _, _], _ => rfl) rfl (by decide)
    (fun f cdv A outer s H E hr => let sc := sc_Deeds_sum_of; (vss_cons (sa 5 sc.nd (ve_meth (i := 0) (M_Deeds_worth_of c) mono_Deeds_worth_of c.kl_Deeds rfl (hr.mono (by omega)) rfl (by first | exact Or.inl rfl | exact Or.inr (Or.inl rfl) | exact Or.inr (Or.inr rfl)) rfl (va_cons (vg_val (nv 2)) (va_nil)))) (vss_cons (sa 6 sc.nd (ve_meth (i := 0) (M_Deeds_worth_of c) mono_Deeds_worth_of c.kl_Deeds rfl (hr.mono (by omega)) rfl (by first | exact Or.inl rfl | exact Or.inr (Or.inl rfl) | exact Or.inr (Or.inr rfl)) rfl (va_cons (vg_val (nv 4)) (va_nil)))) (vss_cons (sa 7 sc.nd (ve_call (F_made c) mono_made (hr.mono (by omega)) rfl rfl (va_cons (vg_val (nv 3)) (va_cons (vg_val (nv 5)) (va_cons (vg_val (nv 6)) (va_nil)))))) (vss_cons (vs_expr (mp_app (vp_fd (np 0) c.kl_Deeds c.na_Deeds_done rfl) (vaq_cons (vq_tup (vaq_cons ((vq_str rfl)) (vaq_cons (vq_view (wv_met (M_Deeds_name_of c) mono_Deeds_name_of c.kl_Deeds rfl (hr.mono (by omega)) (wv_name 0) rfl (wvs_cons (wv_name 1) (wvs_nil)))) (vaq_cons (nq 5) (vaq_cons (nq 3) (vaq_cons (nq 6) (vaq_cons (nq 7) (vaq_nil)))))))) (vaq_nil)))) (vss_one (vs_set hr (nv 7) (vp_fd (np 0) c.kl_Deeds c.na_Deeds_memory rfl) (nq 1)))))))) mono_Deeds_sum_of rd_Deeds_sum_of
theorem sc_Lrows : FnScope ["_law_cells", "_law_head", "_law_names_here", "_law_numbers", "_law_at", "_law_k", "_law_rows_here"] ["_law_cells", "_law_head", "_law_names_here"] (defScope s_Lrows) := ⟨rfl, rfl, rfl, by decide +kernel, rfl, by decide +kernel, by decide +kernel⟩
theorem F_Lrows {P : Program} {w : World} {K : PySem.W.Frag} {mg : Str → Option Value} {base : Heap} (c : Hd K mg) : Fv P w K mg base "_law_rows" 4 3 sp_Lrows :=
  Fv.mk2 (κ := [true, true, true]) (t := t_Lrows) c.f_Lrows sc_Lrows (fun F => F.bindsN fun _ _ _ _ _ _ us hl => match us, hl with | [_, _, _], _ => rfl) rfl (by decide)
    (fun f cdv A outer s H E hr => let sc := sc_Lrows; (vss_cons (sa 3 sc.nd (ve_lst (va_nil))) (vss_cons (sa 4 sc.nd (ve_bin opr_add opn_add (vg_val (ve_int)) (vg_val (ve_bin op_modN opn_mod (vg_val (ve_bin opr_div opn_div (vg_val (nv 1)) (vg_val (ve_int)))) (vg_val (ve_int)))))) (vss_cons (vs_for (passes_of rfl) rfl (vi_range1 rfl c.b_range (va_cons (vg_val (ve_bin opr_add opn_add (vg_val (ve_callB call_lenA opn_len rfl c.b_len rfl (va_cons (vg_val (nv 0)) (va_nil)))) (vg_val (ve_int)))) (va_nil))) (tn 5 sc.nd) (vss_cons (vs_expr (m_app 3 (va_cons (vg_val (nv 4)) (va_nil)))) (vss_one (sa 4 sc.nd (ve_bin opr_add opn_add (vg_val (ve_bin opr_add opn_add (vg_val (nv 4)) (vg_val (ve_int)))) (vg_val (ve_bin op_modN opn_mod (vg_val (ve_call (F_Lmixed c) mono_Lmixed (hr.mono (by omega)) rfl rfl (va_cons (vg_val (nv 1)) (va_cons (vg_val (nv 5)) (va_nil))))) (vg_val (ve_ix hr (vg_val (ve_lst (va_cons (vg_val (ve_int)) (va_cons (vg_val (ve_int)) (va_cons (vg_val (ve_int)) (va_nil)))))) (vg_val (ve_bin op_modN opn_mod (vg_val (ve_bin opr_div opn_div (vg_val (nv 1)) (vg_val (ve_int)))) (vg_val (ve_int)))) (fun _ _ => rfl)))))))))) (vss_cons (vs_setLc (own := [("_law_k", 5)]) (i := 6) rfl sc.nd (blkOk_by (by first | rfl | decide +kernel)) (kap_of rfl) (vi_range1 rfl c.b_range (va_cons (vg_val (ve_callB call_lenA opn_len rfl c.b_len rfl (va_cons (vg_val (nv 0)) (va_nil)))) (va_nil))) (fun bi => vto_name (by decide) sc.nd rfl (by first | exact Or.inl rfl | exact Or.inr rfl) (ne_of_beq_false rfl)) (fun bi => vts_nil) (fun bi => ve_call (F_Lrow c) mono_Lrow (hr.mono (by omega)) rfl rfl (va_cons (vg_val (ve_ix hr (vg_val (nv 0)) (vg_val (nv 5)) (fun _ _ => rfl))) (va_cons (vg_val (nv 5)) (va_cons (vg_val (nf 3)) (va_cons (vg_val (nv 2)) (va_nil)))))) rfl rfl (ne_of_beq_false rfl) (sw_true rfl rfl rfl (by decide +kernel))) (vss_cons (vs_if (vt_cmp (opr_eq hr) opn_eq (vg_val (ve_bin op_modN opn_mod (vg_val (ve_bin opr_div opn_div (vg_val (nv 1)) (vg_val (ve_int)))) (vg_val (ve_int)))) (vg_val (ve_int)) rfl) (vss_one (vs_expr (m_app 6 (va_cons (vg_val (ve_tup (va_cons (vg_val (ve_ix hr (vg_val (nf 3)) (vg_val (ve_un un_neg opn_neg (vg_val (ve_int)))) (fun _ _ => rfl))) (va_cons (vg_val ((ve_str rfl))) (va_cons (vg_val (ve_view (wv_ix hr (wv_name 3) (wv_bin op_modN opn_mod (wv_bin opr_div opn_div (wv_name 1) (wv_int)) (wv_callB call_lenA opn_len rfl c.b_len rfl (wvs_cons (wv_name 3) (wvs_nil)))) (fun _ _ => rfl)))) (va_nil)))))) (va_nil))))) (vss_one (vs_expr (m_app 6 (va_cons (vg_val (ve_tup (va_cons (vg_val (ve_ix hr (vg_val (nf 3)) (vg_val (ve_un un_neg opn_neg (vg_val (ve_int)))) (fun _ _ => rfl))) (va_cons (vg_val ((ve_str rfl))) (va_nil))))) (va_nil)))))) (vss_one (vs_ret (nm 6))))))))) mono_Lrows rd_Lrows
theorem sc_place_behind : FnScope ["rows", "at", "places", "deeds", "row"] ["rows", "at", "places", "deeds"] (defScope s_place_behind) := ⟨rfl, rfl, rfl, by decide +kernel, rfl, by decide +kernel, by decide +kernel⟩
theorem F_place_behind {P : Program} {w : World} {K : PySem.W.Frag} {mg : Str → Option Value} {base : Heap} (c : Hd K mg) : Fv P w K mg base "place_behind" 5 4 sp_place_behind :=
  Fv.mk2 (κ := [true, true, true, true]) (t := t_place_behind) c.f_place_behind sc_place_behind (fun F => F.bindsN fun _ _ _ _ _ _ us hl => match us, hl with | [_, _, _, _], _ => rfl) rfl (by decide)
    (fun f cdv A outer s H E hr => let sc := sc_place_behind; (vss_cons (sa 4 sc.nd (ve_ix hr (vg_val (nv 0)) (vg_val (nv 1)) (fun _ _ => rfl))) (vss_cons (vs_if (vt_cmp (opr_eq hr) opn_eq (vg_val (ve_ix hr (vg_val (nv 4)) (vg_val (ve_int)) (fun _ _ => rfl))) (vg_val ((ve_str rfl))) rfl) (vss_cons (vs_expr (ve_meth (i := 3) (M_Deeds_sum_of c) mono_Deeds_sum_of c.kl_Deeds rfl (hr.mono (by omega)) rfl (by first | exact Or.inl rfl | exact Or.inr (Or.inl rfl) | exact Or.inr (Or.inr rfl)) rfl (va_cons (vg_val (ve_ix hr (vg_val (nv 4)) (vg_val (ve_int)) (fun _ _ => rfl))) (va_cons (vg_val (ve_ix hr (vg_val (nv 4)) (vg_val (ve_int)) (fun _ _ => rfl))) (va_cons (vg_val (ve_ix hr (vg_val (nv 4)) (vg_val (ve_int)) (fun _ _ => rfl))) (va_cons (vg_val (ve_ix hr (vg_val (nv 4)) (vg_val (ve_int)) (fun _ _ => rfl))) (va_nil))))))) (vss_one (vs_ret (ve_bin opr_add opn_add (vg_val (nv 1)) (vg_val (ve_int)))))) (vss_nil)) (vss_cons (vs_if (vt_val (ve_meth (i := 3) (M_Deeds_test_of c) mono_Deeds_test_of c.kl_Deeds rfl (hr.mono (by omega)) rfl (by first | exact Or.inl rfl | exact Or.inr (Or.inl rfl) | exact Or.inr (Or.inr rfl)) rfl (va_cons (vg_val (ve_ix hr (vg_val (nv 4)) (vg_val (ve_int)) (fun _ _ => rfl))) (va_cons (vg_val (ve_ix hr (vg_val (nv 4)) (vg_val (ve_int)) (fun _ _ => rfl))) (va_cons (vg_val (ve_ix hr (vg_val (nv 4)) (vg_val (ve_int)) (fun _ _ => rfl))) (va_nil)))))) (vss_one (vs_ret (ve_ix hr (vg_val (nv 2)) (vg_val (ve_ix hr (vg_val (nv 4)) (vg_val (ve_int)) (fun _ _ => rfl))) (fun _ _ => rfl)))) (vss_nil)) (vss_one (vs_ret (ve_bin opr_add opn_add (vg_val (nv 1)) (vg_val (ve_int))))))))) mono_place_behind rd_place_behind
theorem sc_run : FnScope ["rows", "memory", "most", "places", "at", "row", "deeds", "jumps"] ["rows", "memory", "most"] (defScope s_run) := ⟨rfl, rfl, rfl, by decide +kernel, rfl, by decide +kernel, by decide +kernel⟩
theorem F_run_d {P : Program} {w : World} {K : PySem.W.Frag} {mg : Str → Option Value} {base : Heap} (c : Hd K mg) : Fd P w K mg base "run" 100 6 3 sp_run :=
  Fd.make (κ := [true, true, true]) (t := t_run) c.f_run sc_run (fun F => ⟨F.binds1 3 1 (by simp) rfl fun _ _ _ _ _ _ _ us its h1 h2 => (match us, h1, its, h2 with | [_, _, _], _, [_], _ => ⟨_, rfl, rfl⟩), F.binds1 2 0 (by simp) rfl fun _ _ _ _ _ _ _ us its h1 h2 => (match us, h1, its, h2 with | [_, _], _, [_], _ => ⟨_, rfl, rfl⟩)⟩) rfl (by decide)
    (fun f cdv A outer s H E hr => let sc := sc_run; (vss_cons (sa 3 sc.nd (ve_dK)) (vss_cons (vs_for (passes_of rfl) rfl (vi_enum rfl c.b_enumerate (va_cons (vg_val (nv 0)) (va_nil))) (vt_names (n := 0) rfl (vns_cons (i := 4) sc.nd rfl (by first | exact Or.inl rfl | exact Or.inr rfl) (ne_of_beq_false rfl) (vns_cons (i := 5) sc.nd rfl (by first | exact Or.inl rfl | exact Or.inr rfl) (ne_of_beq_false rfl) (vns_nil)))) (vss_one (vs_set hr (nv 4) (np 3) (vq_ix hr (nq 5) (vq_int) (fun _ _ => rfl))))) (vss_cons (sa 6 sc.nd (ve_newN (M_Deeds_init c) mono_Deeds_init (hr.mono (by omega)) rfl c.gc_Deeds rfl (va_cons (vg_val (nv 1)) (va_cons (vg_val (nv 2)) (va_nil))))) (vss_cons (sa 4 sc.nd (ve_int)) (vss_cons (sa 7 sc.nd (ve_int)) (vss_cons (vs_while (passes_of rfl) (vt_cmp (opr_ne hr) opn_ne (vg_val (ve_ix hr (vg_val (ve_ix hr (vg_val (nv 0)) (vg_val (nv 4)) (fun _ _ => rfl))) (vg_val (ve_int)) (fun _ _ => rfl))) (vg_val ((ve_str rfl))) rfl) (vss_one (vs_if (vt_cmp (opr_eq hr) opn_eq (vg_val (ve_ix hr (vg_val (ve_ix hr (vg_val (nv 0)) (vg_val (nv 4)) (fun _ _ => rfl))) (vg_val (ve_int)) (fun _ _ => rfl))) (vg_val ((ve_str rfl))) rfl) (vss_cons (sa 4 sc.nd (ve_ix hr (vg_val (nf 3)) (vg_val (ve_ix hr (vg_val (ve_ix hr (vg_val (nv 0)) (vg_val (nv 4)) (fun _ _ => rfl))) (vg_val (ve_int)) (fun _ _ => rfl))) (fun _ _ => rfl))) (vss_cons (vs_aug (i := 7) iop_add sc.nd (ve_int)) (vss_one (vs_if (vt_cmp op_gt opn_gt (vg_val (nv 7)) (vg_val (ve_callB call_lenA opn_len rfl c.b_len rfl (va_cons (vg_val (nv 0)) (va_nil)))) rfl) (vss_one (vs_ret (ve_meth (i := 6) (M_Deeds_told c) mono_Deeds_told c.kl_Deeds rfl (hr.mono (by omega)) rfl (by first | exact Or.inl rfl | exact Or.inr (Or.inl rfl) | exact Or.inr (Or.inr rfl)) rfl (va_cons (vg_val ((ve_str rfl))) (va_nil))))) (vss_nil))))) (vss_one (vs_if (vt_val (ve_meth0 (i := 6) (M_Deeds_full c) mono_Deeds_full c.kl_Deeds rfl (hr.mono (by omega)) rfl (by first | exact Or.inl rfl | exact Or.inr (Or.inl rfl) | exact Or.inr (Or.inr rfl)))) (vss_one (vs_ret (ve_meth (i := 6) (M_Deeds_told c) mono_Deeds_told c.kl_Deeds rfl (hr.mono (by omega)) rfl (by first | exact Or.inl rfl | exact Or.inr (Or.inl rfl) | exact Or.inr (Or.inr rfl)) rfl (va_cons (vg_val ((ve_str rfl))) (va_nil))))) (vss_one (vs_tryE (vss_one (sa 7 sc.nd (ve_int))) rfl rfl ⟨rfl, by decide, .inl c.gx_ByNought⟩ (exOk_c c.ex (p := (.own "ByNought", xt_ByNought)) ((.head _)) fun _ _ h => xtab_mem h) (fun xn xe xh => vss_one (sa 4 sc.nd (ve_call (F_place_behind c) mono_place_behind (hr.mono (by omega)) rfl rfl (va_cons (vg_val (nv 0)) (va_cons (vg_val (nv 4)) (va_cons (vg_val (nf 3)) (al 6 (va_nil)))))))) (fun xa xo xp hcc => vss_one (vs_ret (ve_methH (i := 6) (Mh_Deeds_told c) mono_Deeds_told c.kl_Deeds rfl (roomS hr (by omega)) hcc rfl (by first | exact Or.inl rfl | exact Or.inr (Or.inl rfl) | exact Or.inr (Or.inr rfl)) rfl (va_cons (vg_val ((ve_str rfl))) (va_nil)))))))))))) (vss_one (vs_ret (ve_meth (i := 6) (M_Deeds_told c) mono_Deeds_told c.kl_Deeds rfl (hr.mono (by omega)) rfl (by first | exact Or.inl rfl | exact Or.inr (Or.inl rfl) | exact Or.inr (Or.inr rfl)) rfl (va_cons (vg_val ((ve_str rfl))) (va_nil)))))))))))) mono_run rd_run
theorem F_run {P : Program} {w : World} {K : PySem.W.Frag} {mg : Str → Option Value} {base : Heap} (c : Hd K mg) : Fv P w K mg base "run" 6 3 sp_run := (F_run_d c).fv
theorem sc_Lalike : FnScope ["_law_found", "_law_due", "_law_k"] ["_law_found", "_law_due"] (defScope s_Lalike) := ⟨rfl, rfl, rfl, by decide +kernel, rfl, by decide +kernel, by decide +kernel⟩
theorem F_Lalike {P : Program} {w : World} {K : PySem.W.Frag} {mg : Str → Option Value} {base : Heap} (c : Hd K mg) : ∀ n, Fv P w K mg base "_law_alike" (1 + n) 2 (sp_Lalike n)
  | 0 => Fv.mk2 (k := 0) (κ := [true, true]) (t := vNever) c.f_Lalike sc_Lalike (fun F => F.bindsN fun _ _ _ _ _ _ us hl => match us, hl with | [_, _], _ => rfl) rfl (by decide) (fun f cdv A outer s H E hr => vss_never) (mono_Lalike 0) (fun _ _ _ _ h => h.elim)
  | n + 1 => Fv.mk2 (k := 1 + n) (κ := [true, true]) (t := t_Lalike n) c.f_Lalike sc_Lalike (fun F => F.bindsN fun _ _ _ _ _ _ us hl => match us, hl with | [_, _], _ => rfl) rfl (by decide)
    (fun f cdv A outer s H E hr => let sc := sc_Lalike; let ih := F_Lalike (P := P) (w := w) (base := base) c n; (vss_cons (vs_if (vt_val (ve_callB call_isi opn_isi rfl c.b_isinstance rfl (va_cons (vg_val (nv 1)) (va_cons (vg_val ((ve_ty rfl c.b_bool rfl))) (va_nil))))) (vss_one (vs_ret (ve_and (ve_callB call_isi opn_isi rfl c.b_isinstance rfl (va_cons (vg_val (nv 0)) (va_cons (vg_val ((ve_ty rfl c.b_bool rfl))) (va_nil)))) (ve_one (ve_cmp (opr_eq hr) opn_eq (vg_val (nv 0)) (vg_val (nv 1)) rfl))))) (vss_nil)) (vss_cons (vs_if (vt_val (ve_callB call_isi opn_isi rfl c.b_isinstance rfl (va_cons (vg_val (nv 1)) (va_cons (vg_val ((ve_ty rfl c.b_int rfl))) (va_nil))))) (vss_one (vs_ret (ve_and (ve_callB call_isi opn_isi rfl c.b_isinstance rfl (va_cons (vg_val (nv 0)) (va_cons (vg_val ((ve_ty rfl c.b_int rfl))) (va_nil)))) (ve_and (ve_not (ve_callB call_isi opn_isi rfl c.b_isinstance rfl (va_cons (vg_val (nv 0)) (va_cons (vg_val ((ve_ty rfl c.b_bool rfl))) (va_nil))))) (ve_one (ve_cmp (opr_eq hr) opn_eq (vg_val (nv 0)) (vg_val (nv 1)) rfl)))))) (vss_nil)) (vss_cons (vs_if (vt_val (ve_callB call_isi opn_isi rfl c.b_isinstance rfl (va_cons (vg_val (nv 1)) (va_cons (vg_val ((ve_ty rfl c.b_str rfl))) (va_nil))))) (vss_one (vs_ret (ve_and (ve_callB call_isi opn_isi rfl c.b_isinstance rfl (va_cons (vg_val (nv 0)) (va_cons (vg_val ((ve_ty rfl c.b_str rfl))) (va_nil)))) (ve_one (ve_cmp (opr_eq hr) opn_eq (vg_val (nv 0)) (vg_val (nv 1)) rfl))))) (vss_nil)) (vss_cons (vs_if (vt_w (vw_or (vt_w (vw_and (vt_val (ve_callB call_isi opn_isi rfl c.b_isinstance rfl (va_cons (vg_val (nv 1)) (va_cons (vg_val ((ve_ty rfl c.b_tuple rfl))) (va_nil))))) (vw_and1 (vt_not (vt_val (ve_callB call_isi opn_isi rfl c.b_isinstance rfl (va_cons (vg_val (nv 0)) (va_cons (vg_val ((ve_ty rfl c.b_tuple rfl))) (va_nil))))))))) (vw_or1 (vt_w (vw_and (vt_val (ve_callB call_isi opn_isi rfl c.b_isinstance rfl (va_cons (vg_val (nv 1)) (va_cons (vg_val ((ve_ty rfl c.b_list rfl))) (va_nil))))) (vw_and1 (vt_not (vt_val (ve_callB call_isi opn_isi rfl c.b_isinstance rfl (va_cons (vg_val (nv 0)) (va_cons (vg_val ((ve_ty rfl c.b_list rfl))) (va_nil)))))))))))) (vss_one (vs_ret (ve_bl))) (vss_nil)) (vss_cons (vs_if (vt_cmp (opr_ne hr) opn_ne (vg_val (ve_callB call_lenA opn_len rfl c.b_len rfl (va_cons (vg_val (nv 0)) (va_nil)))) (vg_val (ve_callB call_lenA opn_len rfl c.b_len rfl (va_cons (vg_val (nv 1)) (va_nil)))) rfl) (vss_one (vs_ret (ve_bl))) (vss_nil)) (vss_cons (vs_for (passes_of rfl) rfl (vi_range1 rfl c.b_range (va_cons (vg_val (ve_callB call_lenA opn_len rfl c.b_len rfl (va_cons (vg_val (nv 1)) (va_nil)))) (va_nil))) (tn 2 sc.nd) (vss_one (vs_if (vt_not (vt_val (ve_call ih (mono_Lalike n) (hr.mono (by omega)) rfl rfl (va_cons (vg_val (ve_ix hr (vg_val (nv 0)) (vg_val (nv 2)) (fun _ _ => rfl))) (va_cons (vg_val (ve_ix hr (vg_val (nv 1)) (vg_val (nv 2)) (fun _ _ => rfl))) (va_nil)))))) (vss_one (vs_ret (ve_bl))) (vss_nil)))) (vss_one (vs_ret (ve_bl)))))))))) (mono_Lalike (n + 1)) (rd_Lalike n)
theorem sc_Lsame_memory : FnScope ["_law_found", "_law_due", "_law_name"] ["_law_found", "_law_due"] (defScope s_Lsame_memory) := ⟨rfl, rfl, rfl, by decide +kernel, rfl, by decide +kernel, by decide +kernel⟩
theorem F_Lsame_memory {P : Program} {w : World} {K : PySem.W.Frag} {mg : Str → Option Value} {base : Heap} (c : Hd K mg) : Fv P w K mg base "_law_same_memory" 10 2 sp_Lsame_memory :=
  Fv.mk2 (κ := [true, true]) (t := t_Lsame_memory) c.f_Lsame_memory sc_Lsame_memory (fun F => F.bindsN fun _ _ _ _ _ _ us hl => match us, hl with | [_, _], _ => rfl) rfl (by decide)
    (fun f cdv A outer s H E hr => let sc := sc_Lsame_memory; (vss_cons (vs_if (vt_w (vw_or (vt_not (vt_val (ve_callB call_isi opn_isi rfl c.b_isinstance rfl (va_cons (vg_val (nv 0)) (va_cons (vg_val ((ve_ty rfl c.b_dict rfl))) (va_nil)))))) (vw_or1 (vt_cmp (opr_ne hr) opn_ne (vg_val (ve_callB call_lenA opn_len rfl c.b_len rfl (va_cons (vg_val (nv 0)) (va_nil)))) (vg_val (ve_callB call_lenA opn_len rfl c.b_len rfl (va_cons (vg_val (nv 1)) (va_nil)))) rfl)))) (vss_one (vs_ret (ve_bl))) (vss_nil)) (vss_cons (vs_forKeys (i := 1) (passes_of rfl) rfl rfl (by first | exact Or.inl rfl | exact Or.inr (Or.inl rfl) | exact Or.inr (Or.inr rfl)) (tn 2 sc.nd) (vss_one (vs_if (vt_w (vw_or (vt_cmp (opr_notIn hr) opn_in (vg_val (nv 2)) (vg_val (nv 0)) rfl) (vw_or1 (vt_not (vt_val (ve_call (F_Lalike c 8) (mono_Lalike 8) (hr.mono (by omega)) rfl rfl (va_cons (vg_val (ve_ix hr (vg_val (nv 0)) (vg_val (nv 2)) (fun _ _ => rfl))) (va_cons (vg_val (ve_ix hr (vg_val (nv 1)) (vg_val (nv 2)) (fun _ _ => rfl))) (va_nil))))))))) (vss_one (vs_ret (ve_bl))) (vss_nil)))) (vss_one (vs_ret (ve_bl)))))) mono_Lsame_memory rd_Lsame_memory
theorem sc_Lfits : FnScope ["_law_found", "_law_due"] ["_law_found", "_law_due"] (defScope s_Lfits) := ⟨rfl, rfl, rfl, by decide +kernel, rfl, by decide +kernel, by decide +kernel⟩
theorem F_Lfits {P : Program} {w : World} {K : PySem.W.Frag} {mg : Str → Option Value} {base : Heap} (c : Hd K mg) : Fv P w K mg base "_law_fits" 11 2 sp_Lfits :=
  Fv.mk2 (κ := [true, true]) (t := t_Lfits) c.f_Lfits sc_Lfits (fun F => F.bindsN fun _ _ _ _ _ _ us hl => match us, hl with | [_, _], _ => rfl) rfl (by decide)
    (fun f cdv A outer s H E hr => let sc := sc_Lfits; (vss_cons (vs_if (vt_w (vw_or (vt_not (vt_val (ve_callB call_isi opn_isi rfl c.b_isinstance rfl (va_cons (vg_val (nv 0)) (va_cons (vg_val ((ve_ty rfl c.b_tuple rfl))) (va_nil)))))) (vw_or1 (vt_cmp (opr_ne hr) opn_ne (vg_val (ve_callB call_lenA opn_len rfl c.b_len rfl (va_cons (vg_val (nv 0)) (va_nil)))) (vg_val (ve_int)) rfl)))) (vss_one (vs_ret (ve_bl))) (vss_nil)) (vss_cons (vs_if (vt_w (vw_or (vt_not (vt_val (ve_call (F_Lalike c 8) (mono_Lalike 8) (hr.mono (by omega)) rfl rfl (va_cons (vg_val (ve_ix hr (vg_val (nv 0)) (vg_val (ve_int)) (fun _ _ => rfl))) (va_cons (vg_val (ve_ix hr (vg_val (nv 1)) (vg_val (ve_int)) (fun _ _ => rfl))) (va_nil)))))) (vw_or1 (vt_not (vt_val (ve_call (F_Lalike c 8) (mono_Lalike 8) (hr.mono (by omega)) rfl rfl (va_cons (vg_val (ve_ix hr (vg_val (nv 0)) (vg_val (ve_int)) (fun _ _ => rfl))) (va_cons (vg_val (ve_ix hr (vg_val (nv 1)) (vg_val (ve_int)) (fun _ _ => rfl))) (va_nil))))))))) (vss_one (vs_ret (ve_bl))) (vss_nil)) (vss_one (vs_ret (ve_call (F_Lsame_memory c) mono_Lsame_memory (hr.mono (by omega)) rfl rfl (va_cons (vg_val (ve_ix hr (vg_val (nv 0)) (vg_val (ve_int)) (fun _ _ => rfl))) (va_cons (vg_val (ve_ix hr (vg_val (nv 1)) (vg_val (ve_int)) (fun _ _ => rfl))) (va_nil))))))))) mono_Lfits rd_Lfits
theorem sc_law : FnScope ["_law_script", "_law_head", "_law_names_here", "_law_rows_here", "_law_memory_here", "_law_most", "_law_due", "_law_handed", "_law_found", "_law_other"] ["_law_script"] (defScope s_law) := ⟨rfl, rfl, rfl, by decide +kernel, rfl, by decide +kernel, by decide +kernel⟩
theorem bd_law {K : PySem.W.Frag} {f : Addr} {fd : FuncData} (F : FunD K "law" "law" (defArgs s_law) (defBody s_law) (defScope s_law) [] [] f fd) (s : Shared) (u : Value) : BindsTo s fd ⟨[u], []⟩ [("_law_script", u)] := FunD.bindsA (ps := ["_law_script"]) F (fun _ _ _ _ _ _ us hl => match us, hl with | [_], _ => rfl) s [u] rfl
theorem ok_law {P : Program} {w : World} {K : PySem.W.Frag} {mg : Str → Option Value} {base : Heap} (c : Hd K mg) {f : Addr} {fd : FuncData} (F : FunD K "law" "law" (defArgs s_law) (defBody s_law) (defScope s_law) [] [] f fd) : FnOk P w K mg base (VL.CX P w) 12 f fd ["_law_script"] (Lift K 1 sp_law) :=
  fn_ok (κ := [true]) (t := t_law) F sc_law rfl (by decide)
    (fun cdv A outer s H E hr => let sc := sc_law; (vss_cons (sa 1 sc.nd (ve_call (F_Lcell c) mono_Lcell (hr.mono (by omega)) rfl rfl (va_cons (vg_val (nv 0)) (va_cons (vg_val (ve_int)) (va_nil))))) (vss_cons (sa 2 sc.nd (ve_still (ve_call (F_Lnames c) mono_Lnames (hr.mono (by omega)) rfl rfl (va_cons (vg_val (ve_call (F_Lmixed c) mono_Lmixed (hr.mono (by omega)) rfl rfl (va_cons (vg_val (ve_call (F_Lcell c) mono_Lcell (hr.mono (by omega)) rfl rfl (va_cons (vg_val (nv 0)) (va_cons (vg_val (ve_int)) (va_nil))))) (va_cons (vg_val (ve_int)) (va_nil))))) (va_nil))))) (vss_cons (sa 3 sc.nd (ve_still (ve_call (F_Lrows c) mono_Lrows (hr.mono (by omega)) rfl rfl (va_cons (vg_val (ve_still (ve_slice (vg_val (nv 0)) (vo_some (ve_int)) (vo_some (ve_int))))) (va_cons (vg_val (nv 1)) (va_cons (vg_val (nv 2)) (va_nil))))))) (vss_cons (sa 4 sc.nd (ve_still (ve_call (F_Lmemory c) mono_Lmemory (hr.mono (by omega)) rfl rfl (va_cons (vg_val (ve_call (F_Lcell c) mono_Lcell (hr.mono (by omega)) rfl rfl (va_cons (vg_val (nv 0)) (va_cons (vg_val (ve_int)) (va_nil))))) (va_cons (vg_val (nv 2)) (va_nil)))))) (vss_cons (sa 5 sc.nd (ve_bin op_modN opn_mod (vg_val (ve_call (F_Lmixed c) mono_Lmixed (hr.mono (by omega)) rfl rfl (va_cons (vg_val (ve_call (F_Lcell c) mono_Lcell (hr.mono (by omega)) rfl rfl (va_cons (vg_val (nv 0)) (va_cons (vg_val (ve_int)) (va_nil))))) (va_cons (vg_val (ve_int)) (va_nil))))) (vg_val (ve_int)))) (vss_cons (sa 6 sc.nd (ve_still (ve_call (F_Lrun c) mono_Lrun (hr.mono (by omega)) rfl rfl (va_cons (vg_val (nv 3)) (va_cons (vg_val (nv 4)) (va_cons (vg_val (nv 5)) (va_nil))))))) (vss_cons (sa 7 sc.nd (ve_lst (va_cons (vg_val (ve_callTy (call_listA rfl) opn_list rfl c.b_list rfl (va_cons (vg_val (nv 3)) (va_nil)))) (va_cons (vg_val (ve_callTy call_dictD opn_dict rfl c.b_dict rfl (va_cons (vg_val (nv 4)) (va_nil)))) (va_nil))))) (vss_cons (sa 8 sc.nd (ve_still (ve_lend (F_run c) mono_run (hr.mono (by omega)) rfl rfl (wvs_cons (wv_ix hr (wv_name 7) (wv_int) (fun _ _ => rfl)) (wvs_cons (wv_ix hr (wv_name 7) (wv_int) (fun _ _ => rfl)) (wvs_cons (wv_name 5) (wvs_nil))))))) (vss_cons (vs_if (vt_w (vw_or (vt_not (vt_val (ve_call (F_Lfits c) mono_Lfits (hr.mono (by omega)) rfl rfl (va_cons (vg_val (nv 8)) (va_cons (vg_val (nv 6)) (va_nil)))))) (vw_or (vt_not (vt_viewV (wv_call (F_Lalike c 8) (mono_Lalike 8) (hr.mono (by omega)) rfl rfl (wvs_cons (wv_ix hr (wv_name 7) (wv_int) (fun _ _ => rfl)) (wvs_cons (wv_name 3) (wvs_nil)))))) (vw_or1 (vt_not (vt_viewV (wv_call (F_Lsame_memory c) mono_Lsame_memory (hr.mono (by omega)) rfl rfl (wvs_cons (wv_ix hr (wv_name 7) (wv_int) (fun _ _ => rfl)) (wvs_cons (wv_name 4) (wvs_nil)))))))))) (vss_one (vs_ret (ve_bl))) (vss_nil)) (vss_cons (vs_expr (mp_clear (vp_ix (np 7) (vq_int) (fun _ _ => rfl)))) (vss_cons (vs_expr (mp_clearD (vp_ix (np 7) (vq_int) (fun _ _ => rfl)))) (vss_cons (sa 9 sc.nd (ve_still (ve_call (F_run c) mono_run (hr.mono (by omega)) rfl rfl (va_cons (vg_val (ve_still (ve_lst (va_cons (vg_val (ve_tup (va_cons (vg_val (ve_int)) (va_cons (vg_val ((ve_str rfl))) (va_cons (vg_val (ve_ix hr (vg_val (nv 2)) (vg_val (ve_int)) (fun _ _ => rfl))) (va_cons (vg_val (ve_int)) (va_cons (vg_val ((ve_str rfl))) (va_cons (vg_val (ve_ix hr (vg_val (nv 2)) (vg_val (ve_int)) (fun _ _ => rfl))) (va_nil))))))))) (va_cons (vg_val (ve_tup (va_cons (vg_val (ve_int)) (va_cons (vg_val ((ve_str rfl))) (va_nil))))) (va_nil)))))) (va_cons (vg_val (ve_still (ve_disp (vpps_cons (ve_ix hr (vg_val (nv 2)) (vg_val (ve_int)) (fun _ _ => rfl)) (ve_int) (vpps_nil)) rfl rfl (by simp) (by decide) (fun N ε Q h => by simpa [vdCons, vdNil] using h)))) (va_cons (vg_val (ve_int)) (va_nil))))))) (vss_cons (vs_if (vt_not (vt_val (ve_call (F_Lfits c) mono_Lfits (hr.mono (by omega)) rfl rfl (va_cons (vg_val (nv 9)) (va_cons (vg_val (ve_still (ve_tup (va_cons (vg_val (ve_lst (va_cons (vg_val (ve_tup (va_cons (vg_val ((ve_str rfl))) (va_cons (vg_val (ve_ix hr (vg_val (nv 2)) (vg_val (ve_int)) (fun _ _ => rfl))) (va_cons (vg_val (ve_int)) (va_cons (vg_val ((ve_str rfl))) (va_cons (vg_val (ve_int)) (va_cons (vg_val (ve_int)) (va_nil))))))))) (va_nil)))) (va_cons (vg_val ((ve_str rfl))) (va_cons (vg_val (ve_disp (vpps_cons (ve_ix hr (vg_val (nv 2)) (vg_val (ve_int)) (fun _ _ => rfl)) (ve_int) (vpps_cons (ve_ix hr (vg_val (nv 2)) (vg_val (ve_int)) (fun _ _ => rfl)) (ve_int) (vpps_nil))) rfl rfl (by simp) (by decide) (fun N ε Q h => by simpa [vdCons, vdNil] using h))) (va_nil))))))) (va_nil)))))) (vss_one (vs_ret (ve_bl))) (vss_nil)) (vss_one (vs_ret (ve_and (ve_call (F_Lfits c) mono_Lfits (hr.mono (by omega)) rfl rfl (va_cons (vg_val (ve_still (ve_call (F_run c) mono_run (hr.mono (by omega)) rfl rfl (va_cons (vg_val (nv 3)) (va_cons (vg_val (nv 4)) (va_cons (vg_val (nv 5)) (va_nil))))))) (va_cons (vg_val (nv 6)) (va_nil)))) (ve_one (ve_call (F_Lfits c) mono_Lfits (hr.mono (by omega)) rfl rfl (va_cons (vg_val (nv 8)) (va_cons (vg_val (nv 6)) (va_nil)))))))))))))))))))))) mono_law rd_law
end Pk07
namespace Pk07
open PySem PySem.Spec PyProof.Rows L2 VL
def dd_Deeds_told : He.DefD := ⟨("Deeds", some "told"), "told", "Deeds.told", defArgs s_Deeds_told, defBody s_Deeds_told, defScope s_Deeds_told, [], []⟩
def dd_Deeds_test_of : He.DefD := ⟨("Deeds", some "test_of"), "test_of", "Deeds.test_of", defArgs s_Deeds_test_of, defBody s_Deeds_test_of, defScope s_Deeds_test_of, [], []⟩
def dd_Deeds_sum_of : He.DefD := ⟨("Deeds", some "sum_of"), "sum_of", "Deeds.sum_of", defArgs s_Deeds_sum_of, defBody s_Deeds_sum_of, defScope s_Deeds_sum_of, [], []⟩
def dd_Deeds_name_of : He.DefD := ⟨("Deeds", some "name_of"), "name_of", "Deeds.name_of", defArgs s_Deeds_name_of, defBody s_Deeds_name_of, defScope s_Deeds_name_of, [], []⟩
def dd_Deeds_worth_of : He.DefD := ⟨("Deeds", some "worth_of"), "worth_of", "Deeds.worth_of", defArgs s_Deeds_worth_of, defBody s_Deeds_worth_of, defScope s_Deeds_worth_of, [], []⟩
def dd_Deeds_full : He.DefD := ⟨("Deeds", some "full"), "full", "Deeds.full", defArgs s_Deeds_full, defBody s_Deeds_full, defScope s_Deeds_full, [], []⟩
def dd_Deeds_init : He.DefD := ⟨("Deeds", some "__init__"), "__init__", "Deeds.__init__", defArgs s_Deeds_init, defBody s_Deeds_init, defScope s_Deeds_init, [], []⟩
def dd_made : He.DefD := ⟨("made", none), "made", "made", defArgs s_made, defBody s_made, defScope s_made, [], []⟩
def dd_holds : He.DefD := ⟨("holds", none), "holds", "holds", defArgs s_holds, defBody s_holds, defScope s_holds, [], []⟩
def dd_worth : He.DefD := ⟨("worth", none), "worth", "worth", defArgs s_worth, defBody s_worth, defScope s_worth, [], []⟩
def dd_place_behind : He.DefD := ⟨("place_behind", none), "place_behind", "place_behind", defArgs s_place_behind, defBody s_place_behind, defScope s_place_behind, [], []⟩
def dd_run : He.DefD := ⟨("run", none), "run", "run", defArgs s_run, defBody s_run, defScope s_run, [.int 100], []⟩
def dd_Lcell : He.DefD := ⟨("_law_cell", none), "_law_cell", "_law_cell", defArgs s_Lcell, defBody s_Lcell, defScope s_Lcell, [], []⟩
def dd_Lmixed : He.DefD := ⟨("_law_mixed", none), "_law_mixed", "_law_mixed", defArgs s_Lmixed, defBody s_Lmixed, defScope s_Lmixed, [], []⟩
def dd_Lnames : He.DefD := ⟨("_law_names", none), "_law_names", "_law_names", defArgs s_Lnames, defBody s_Lnames, defScope s_Lnames, [], []⟩
def dd_Lgreat : He.DefD := ⟨("_law_great", none), "_law_great", "_law_great", defArgs s_Lgreat, defBody s_Lgreat, defScope s_Lgreat, [], []⟩
def dd_Loperand : He.DefD := ⟨("_law_operand", none), "_law_operand", "_law_operand", defArgs s_Loperand, defBody s_Loperand, defScope s_Loperand, [], []⟩
def dd_Lrow : He.DefD := ⟨("_law_row", none), "_law_row", "_law_row", defArgs s_Lrow, defBody s_Lrow, defScope s_Lrow, [], []⟩
def dd_Lrows : He.DefD := ⟨("_law_rows", none), "_law_rows", "_law_rows", defArgs s_Lrows, defBody s_Lrows, defScope s_Lrows, [], []⟩
def dd_Lmemory : He.DefD := ⟨("_law_memory", none), "_law_memory", "_law_memory", defArgs s_Lmemory, defBody s_Lmemory, defScope s_Lmemory, [], []⟩
def dd_Lalike : He.DefD := ⟨("_law_alike", none), "_law_alike", "_law_alike", defArgs s_Lalike, defBody s_Lalike, defScope s_Lalike, [], []⟩
def dd_Lsame_memory : He.DefD := ⟨("_law_same_memory", none), "_law_same_memory", "_law_same_memory", defArgs s_Lsame_memory, defBody s_Lsame_memory, defScope s_Lsame_memory, [], []⟩
def dd_Lworth : He.DefD := ⟨("_law_worth", none), "_law_worth", "_law_worth", defArgs s_Lworth, defBody s_Lworth, defScope s_Lworth, [], []⟩
def dd_Lsum : He.DefD := ⟨("_law_sum", none), "_law_sum", "_law_sum", defArgs s_Lsum, defBody s_Lsum, defScope s_Lsum, [], []⟩
def dd_Ldeed : He.DefD := ⟨("_law_deed", none), "_law_deed", "_law_deed", defArgs s_Ldeed, defBody s_Ldeed, defScope s_Ldeed, [], []⟩
def dd_Lrun : He.DefD := ⟨("_law_run", none), "_law_run", "_law_run", defArgs s_Lrun, defBody s_Lrun, defScope s_Lrun, [], []⟩
def dd_Lfits : He.DefD := ⟨("_law_fits", none), "_law_fits", "_law_fits", defArgs s_Lfits, defBody s_Lfits, defScope s_Lfits, [], []⟩
def dd_law : He.DefD := ⟨("law", none), "law", "law", defArgs s_law, defBody s_law, defScope s_law, [], []⟩
def dd_ini : He.DefD := ⟨("JumpError", some "__init__"), "__init__", "JumpError.__init__", defArgs s_ini, defBody s_ini, defScope s_ini, [.non], []⟩
def fnD : List He.DefD := [dd_Deeds_told, dd_Deeds_test_of, dd_Deeds_sum_of, dd_Deeds_name_of, dd_Deeds_worth_of, dd_Deeds_full, dd_Deeds_init, dd_made, dd_holds, dd_worth, dd_place_behind, dd_run, dd_Lcell, dd_Lmixed, dd_Lnames, dd_Lgreat, dd_Loperand, dd_Lrow, dd_Lrows, dd_Lmemory, dd_Lalike, dd_Lsame_memory, dd_Lworth, dd_Lsum, dd_Ldeed, dd_Lrun, dd_Lfits, dd_law, dd_ini]
def faD : List He.Fa := [.glo "made", .glo "holds", .glo "worth", .glo "place_behind", .glo "run", .glo "_law_cell", .glo "_law_mixed", .glo "_law_names", .glo "_law_great", .glo "_law_operand", .glo "_law_row", .glo "_law_rows", .glo "_law_memory", .glo "_law_alike", .glo "_law_same_memory", .glo "_law_worth", .glo "_law_sum", .glo "_law_deed", .glo "_law_run", .glo "_law_fits", .glo "law", .free "dict", .free "list", .free "len", .free "divmod", .free "isinstance", .free "str", .free "enumerate", .free "range", .free "bool", .free "int", .free "tuple", .free "ValueError", .glo "ByNought", .cls "Deeds", .mkr "Deeds", .glo "Deeds", .noat "Deeds" "memory", .noat "Deeds" "done", .noat "Deeds" "most", .meth "Deeds" "full", .meth "Deeds" "worth_of", .meth "Deeds" "name_of", .meth "Deeds" "sum_of", .meth "Deeds" "test_of", .meth "Deeds" "told"]
def exD : PySem.W.Frag → Bool := fun K => exOk RLx ctx ktx K
abbrev RowR : PySem.W.OpenRow := PySem.W.OpenLaw.row PySem.Challenge.rw_unjump_k07_run_by_rows
abbrev hkR : PySem.W.Hook := He.hookX 6 faD fnD [] [] exD
def obR (s : PySem.W.SharedT) : He.AlX := He.obsX 6 faD fnD [] [] exD (HandSHeadRun.getT s)
theorem obR_eq (s : PySem.W.SharedT) : obR s = hkR.obs s.abs := He.obsX_eq (HandSHeadRun.getT_eq s)
def loose0 : List Str := ["JumpError", "ByNought", "made", "holds", "worth", "Deeds", "place_behind", "run", "_law_cell", "_law_mixed", "_law_names", "_law_great", "_law_operand", "_law_row", "_law_rows", "_law_memory", "_law_alike", "_law_same_memory", "_law_worth", "_law_sum", "_law_deed", "_law_run", "_law_fits"]
def looseR : List Str := loose0
theorem runR (w : World) : HandSHeadRun.RunEq RowR (PySem.W.view RowR.prog [27]) hkR obR 6000 looseR w := by
  intro os
  kernel_rfl
theorem hdR {w : World} {K : PySem.W.Frag} {h : Heap} {mg : Str → Option Value} (X : K.In h) (G : h.Ns mainGlobals mg) (c : He.SaysX faD fnD [] [] exD w h K) : Hd K mg where
  f_Deeds_told := c.t.d.def_ 0 (d := dd_Deeds_told) rfl
  f_Deeds_test_of := c.t.d.def_ 1 (d := dd_Deeds_test_of) rfl
  f_Deeds_sum_of := c.t.d.def_ 2 (d := dd_Deeds_sum_of) rfl
  f_Deeds_name_of := c.t.d.def_ 3 (d := dd_Deeds_name_of) rfl
  f_Deeds_worth_of := c.t.d.def_ 4 (d := dd_Deeds_worth_of) rfl
  f_Deeds_full := c.t.d.def_ 5 (d := dd_Deeds_full) rfl
  f_Deeds_init := c.t.d.def_ 6 (d := dd_Deeds_init) rfl
  f_made := fnAt_of X G (c.t.d.fact 0 (f := .glo "made") rfl) rfl (c.t.d.def_ 7 (d := dd_made) rfl)
  f_holds := fnAt_of X G (c.t.d.fact 1 (f := .glo "holds") rfl) rfl (c.t.d.def_ 8 (d := dd_holds) rfl)
  f_worth := fnAt_of X G (c.t.d.fact 2 (f := .glo "worth") rfl) rfl (c.t.d.def_ 9 (d := dd_worth) rfl)
  f_place_behind := fnAt_of X G (c.t.d.fact 3 (f := .glo "place_behind") rfl) rfl (c.t.d.def_ 10 (d := dd_place_behind) rfl)
  f_run := (fun ⟨fd, F⟩ => ⟨_, fd, He.glo_ok X G (c.t.d.fact 4 (f := .glo "run") rfl), F⟩) (c.t.d.def_ 11 (d := dd_run) rfl)
  f_Lcell := fnAt_of X G (c.t.d.fact 5 (f := .glo "_law_cell") rfl) rfl (c.t.d.def_ 12 (d := dd_Lcell) rfl)
  f_Lmixed := fnAt_of X G (c.t.d.fact 6 (f := .glo "_law_mixed") rfl) rfl (c.t.d.def_ 13 (d := dd_Lmixed) rfl)
  f_Lnames := fnAt_of X G (c.t.d.fact 7 (f := .glo "_law_names") rfl) rfl (c.t.d.def_ 14 (d := dd_Lnames) rfl)
  f_Lgreat := fnAt_of X G (c.t.d.fact 8 (f := .glo "_law_great") rfl) rfl (c.t.d.def_ 15 (d := dd_Lgreat) rfl)
  f_Loperand := fnAt_of X G (c.t.d.fact 9 (f := .glo "_law_operand") rfl) rfl (c.t.d.def_ 16 (d := dd_Loperand) rfl)
  f_Lrow := fnAt_of X G (c.t.d.fact 10 (f := .glo "_law_row") rfl) rfl (c.t.d.def_ 17 (d := dd_Lrow) rfl)
  f_Lrows := fnAt_of X G (c.t.d.fact 11 (f := .glo "_law_rows") rfl) rfl (c.t.d.def_ 18 (d := dd_Lrows) rfl)
  f_Lmemory := fnAt_of X G (c.t.d.fact 12 (f := .glo "_law_memory") rfl) rfl (c.t.d.def_ 19 (d := dd_Lmemory) rfl)
  f_Lalike := fnAt_of X G (c.t.d.fact 13 (f := .glo "_law_alike") rfl) rfl (c.t.d.def_ 20 (d := dd_Lalike) rfl)
  f_Lsame_memory := fnAt_of X G (c.t.d.fact 14 (f := .glo "_law_same_memory") rfl) rfl (c.t.d.def_ 21 (d := dd_Lsame_memory) rfl)
  f_Lworth := fnAt_of X G (c.t.d.fact 15 (f := .glo "_law_worth") rfl) rfl (c.t.d.def_ 22 (d := dd_Lworth) rfl)
  f_Lsum := fnAt_of X G (c.t.d.fact 16 (f := .glo "_law_sum") rfl) rfl (c.t.d.def_ 23 (d := dd_Lsum) rfl)
  f_Ldeed := fnAt_of X G (c.t.d.fact 17 (f := .glo "_law_deed") rfl) rfl (c.t.d.def_ 24 (d := dd_Ldeed) rfl)
  f_Lrun := fnAt_of X G (c.t.d.fact 18 (f := .glo "_law_run") rfl) rfl (c.t.d.def_ 25 (d := dd_Lrun) rfl)
  f_Lfits := fnAt_of X G (c.t.d.fact 19 (f := .glo "_law_fits") rfl) rfl (c.t.d.def_ 26 (d := dd_Lfits) rfl)
  f_law := fnAt_of X G (c.t.d.fact 20 (f := .glo "law") rfl) rfl (c.t.d.def_ 27 (d := dd_law) rfl)
  b_dict := He.free_ok X G (c.t.d.fact 21 (f := .free "dict") rfl)
  b_list := He.free_ok X G (c.t.d.fact 22 (f := .free "list") rfl)
  b_len := He.free_ok X G (c.t.d.fact 23 (f := .free "len") rfl)
  b_divmod := He.free_ok X G (c.t.d.fact 24 (f := .free "divmod") rfl)
  b_isinstance := He.free_ok X G (c.t.d.fact 25 (f := .free "isinstance") rfl)
  b_str := He.free_ok X G (c.t.d.fact 26 (f := .free "str") rfl)
  b_enumerate := He.free_ok X G (c.t.d.fact 27 (f := .free "enumerate") rfl)
  b_range := He.free_ok X G (c.t.d.fact 28 (f := .free "range") rfl)
  b_bool := He.free_ok X G (c.t.d.fact 29 (f := .free "bool") rfl)
  b_int := He.free_ok X G (c.t.d.fact 30 (f := .free "int") rfl)
  b_tuple := He.free_ok X G (c.t.d.fact 31 (f := .free "tuple") rfl)
  b_ValueError := He.free_ok X G (c.t.d.fact 32 (f := .free "ValueError") rfl)
  gx_ByNought := He.glo_ok X G (c.t.d.fact 33 (f := .glo "ByNought") rfl)
  ex := c.more
  ini := c.t.d.def_ 28 (d := dd_ini) rfl
  kl_Deeds := He.cls_ok (c.t.d.fact 34 (f := .cls "Deeds") rfl)
  mk_Deeds := He.mkr_ok (c.t.d.fact 35 (f := .mkr "Deeds") rfl)
  gc_Deeds := He.glo_ok X G (c.t.d.fact 36 (f := .glo "Deeds") rfl)
  na_Deeds_memory := He.noat_ok (c.t.d.fact 37 (f := .noat "Deeds" "memory") rfl)
  na_Deeds_done := He.noat_ok (c.t.d.fact 38 (f := .noat "Deeds" "done") rfl)
  na_Deeds_most := He.noat_ok (c.t.d.fact 39 (f := .noat "Deeds" "most") rfl)
  me_Deeds_full := He.meth_ok (c.t.d.fact 40 (f := .meth "Deeds" "full") rfl)
  me_Deeds_worth_of := He.meth_ok (c.t.d.fact 41 (f := .meth "Deeds" "worth_of") rfl)
  me_Deeds_name_of := He.meth_ok (c.t.d.fact 42 (f := .meth "Deeds" "name_of") rfl)
  me_Deeds_sum_of := He.meth_ok (c.t.d.fact 43 (f := .meth "Deeds" "sum_of") rfl)
  me_Deeds_test_of := He.meth_ok (c.t.d.fact 44 (f := .meth "Deeds" "test_of") rfl)
  me_Deeds_told := He.meth_ok (c.t.d.fact 45 (f := .meth "Deeds" "told") rfl)
end Pk07
open PySem PySem.W PySem.Calls PyProof.Rows
theorem PySem.Challenge.cw_unjump_k07_run_by_rows_holds : PySem.Challenge.rw_unjump_k07_run_by_rows.Holds := by
  w_on; o_law
  refine HandSHeadRun.head_any (r := OpenLaw.row PySem.Challenge.rw_unjump_k07_run_by_rows) (q := view (OpenLaw.row PySem.Challenge.rw_unjump_k07_run_by_rows).prog [27]) (H := Pk07.hkR) (ob := Pk07.obR) (M := 6000) (loose := Pk07.looseR) (d := HandSHeadRun.topDef (OpenLaw.row PySem.Challenge.rw_unjump_k07_run_by_rows).prog 27) (kwd := []) Pk07.obR_eq
    (by kernel_rfl) (fun s => by kernel_rfl) Pk07.runR (by kernel_rfl) (by kernel_rfl) (by kernel_rfl) (by rfl) (by first | assumption | decide +kernel) (by decide +kernel) ⟨rfl, rfl, rfl, rfl, rfl, by decide +kernel⟩ ?hw ?hc
  case hw => w_witness2
  case hc =>
    refine LamX.walk_ofTsE (l := PySem.Challenge.rw_unjump_k07_run_by_rows) (n := 63) (k := 12) (x := "_law_script") (CX := fun w => VL.CX (PySem.Challenge.rw_unjump_k07_run_by_rows).prog w) rfl (by decide) (by kernel_rfl) ⟨rfl, by decide, by decide⟩ ?F VL.cx_no
    intro w mg fa h Y G hmg0
    obtain ⟨K, KX, c⟩ := Y
    have hmg : mg ("law" : PySem.Str) = some (.ref fa) := by
      have e : (HandSHeadRun.topDef (OpenLaw.row PySem.Challenge.rw_unjump_k07_run_by_rows).prog 27).name = ("law" : PySem.Str) := by kernel_rfl
      rw [← e]
      exact hmg0
    have hd := Pk07.hdR (w := w) KX G c
    exact ⟨K, KX, VL.lawAt hmg hd.f_law Pk07.bd_law (Pk07.ok_law hd) Pk07.mono_law Pk07.law_true⟩
