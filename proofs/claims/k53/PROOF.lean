import PyProof.Rows.All
import Wide.All
import OpenK.AllK
import Wide.FinOn
import PySem.Challenge.RW_unjump_k53_spinning
import HandS.ForMost
import HandS.ForExc
import HandS.HeadHook1
import HandS.ExcCtx
import HandS.TryOnly
import HandS.RevRange
import HandS.Rev
import HandS.CallSlots
import HandS.Defaults
import HandS.IsInst
import HandS.Wide
import HandS.WideBits
import HandS.TupAny
import HandS.WordsDict
import HandS.TupLen
import HandS.Deep
import HandS.More
import HandS.Text
import HandS.RaiseMore
import HandS.Comp
import HandS.Style
import HandS.DictComp
import HandS.HeadHook4
import HandS.HeadWalk
import HandS.Words
import HandS.RevTup
import HandS.Zip
import HandS.SetFor
import HandS.ExcInit
import HandS.ExcIs
import HandS.ExcField
import HandS.TryMany
import HandS.HotCalls
import HandS.TryElse
import KE.KBits
import HandS.Codes
import KE.KDictLaws
import HandS.Iter
import HandS.Head0
import HandS.Head1
import HandS.Head2
import HandS.HeadEnd
import Lean
set_option Elab.async false
set_option linter.all false
set_option maxRecDepth 100001
set_option maxHeartbeats 4000001
namespace VL
open PySem PySem.Spec PyProof.Rows L2 VL
abbrev Takes := L2N.Takes
abbrev CX := L2N.CX
abbrev PMk := L2N.PMk
theorem passAt {X : Cx} {W : WX} (tk : Takes X W) (σ : L2.St) : PassesAt (CX X.prog X.w) X σ (WE W σ) := L2N.passAt tk σ
theorem takes_of {X : Cx} {E : XK} (hs : X.stack = X.env :: X.outer) (hf : X.env.frame = some X.env.locals) (hex : X.ex = []) {E₁ : Value → Shared → Prop}
    (hx : X.xe = fun e s' => wpAny (model X.prog X.w) X.A (leaving X.env e) (fun _ s'' => CX X.prog X.w X.outer X.H_0 X.s_0 E e s'') E₁ s') : Takes X (fun cls d _ H => E cls d H) := L2N.takes_of hs hf hex hx
/-- a text by its codes -/
abbrev Cs := List Nat
def toS (s : Cs) : Str := ⟨s.toArray⟩
theorem toS_inj {a b : Cs} (h : toS a = toS b) : a = b := by
  have h2 : a.toArray = b.toArray := congrArg Str.cps h
  simpa using congrArg Array.toList h2
theorem toS_cps (x : Str) : toS x.cps.toList = x := by
  show (⟨x.cps.toList.toArray⟩ : Str) = x
  rw [Array.toArray_toList]
/-- a dict's key: an int, a text -/
abbrev Kc := Sum Int Cs
def kc : Kc → Key
  | .inl i => .inl i
  | .inr s => .inr (toS s)
theorem kc_inj {a b : Kc} (h : kc a = kc b) : a = b := by
  cases a <;> cases b <;> simp only [kc, Sum.inl.injEq, Sum.inr.injEq, reduceCtorEq] at h
  · rw [h]
  · rw [toS_inj h]
/-- Python's data as a tree. The flag m of a mutable node: it is ours alone (true), or it stands still (false) -/
inductive D where
  | hole
  | val (v : V)
  | non
  | bl (b : Bool)
  | int (i : Int)
  | str (s : Cs)
  | ty (n : String)
  | tup (xs : List D)
  | lst (m : Bool) (xs : List D)
  | dK (m : Bool) (ks : List Kc) (xs : List D)
  | dT (m : Bool) (ks : List (List Kc)) (xs : List D)
  | ins (m : Bool) (C : Addr) (fs : List Cs) (xs : List D)
  | pin (v : V) (d : D)
  | exn (a dd : Addr) (cls : Value) (row : D)
deriving Inhabited
/-- the value of a class: an own one by its name -/
def clsV (K : PySem.W.Frag) : Value → Value
  | .type s => .ref (He.ga K (Str.ofString s))
  | v => v
/-- an exception's object, kept -/
def exk (cls : Value) (dd a : Addr) : HO := .ext fun h => ∃ (oe : Obj) (vs : Array Value), h.get? a = some oe ∧ Zc cls (some dd) oe ∧ oe.data = .fields vs
/-- the program's own classes, by number -/
def cA (K : PySem.W.Frag) : Nat → Addr
  | 0 => He.ga K "Deeds"
  | 1 => He.ga K "Opened"
  | 2 => He.ga K "Teller"
  | 3 => He.ga K "Versions"
  | 4 => He.ga K "DeedsByVersions"
  | n => n
def kzip (ks : List Kc) (vs : List V) : List (Key × V) := (ks.map kc).zip vs
def tzip (ks : List (List Kc)) (vs : List V) : List (List Key × V) := (ks.map (·.map kc)).zip vs
def fzip (fs : List Cs) (vs : List V) : List (Str × V) := (fs.map toS).zip vs
/-- what G holds stands in H -/
def Sub (G H : Hp) : Prop := ∀ a o, G a = some o → H a = some o
theorem Sub.refl {G : Hp} : Sub G G := fun _ _ e => e
theorem Sub.trans {A B C : Hp} (h : Sub A B) (k : Sub B C) : Sub A C := fun a o e => k a o (h a o e)
theorem Sub.rd {G H : Hp} (h : Sub G H) {a : Addr} {u : HO} (r : Rd G a u) : Rd H a u := by
  rcases r with r | ⟨o, r⟩
  · exact .inl (h _ _ r)
  · exact .inr ⟨o, h _ _ r⟩
theorem Sub.sqL {K : PySem.W.Frag} {G H : Hp} (h : Sub G H) {a : Addr} {xs : List V} (r : SqL K G a xs) : SqL K H a xs := by
  rcases r with r | r
  · exact .inl (h.rd r)
  · exact .inr r
theorem Sub.upd {G H : Hp} {a : Addr} {o : HO} (h : Sub G H) (n : G a = none) : Sub G (upd H a o) := fun b u e => by
  rw [upd_ne (ne_of_none e n)]
  exact h b u e
theorem Sub.upd2 {G H : Hp} {a : Addr} {o : HO} (h : Sub G H) : Sub (L2.upd G a o) (L2.upd H a o) := fun b u e => by
  by_cases hb : b = a
  · subst hb
    rw [upd_same] at e ⊢
    exact e
  · rw [upd_ne hb] at e ⊢
    exact h b u e
theorem Sub.laid {G : Hp} {a : Addr} {o : HO} (n : G a = none) : Sub G (L2.upd G a o) := Sub.refl.upd n
mutual
/-- v is d: what stands still in G, what is ours at the addresses F in H -/
def Rp (K : PySem.W.Frag) (G H : Hp) : D → V → List Addr → Prop
  | .hole, _, F => F = []
  | .val u, v, F => v = u ∧ F = []
  | .non, v, F => v = .non ∧ F = []
  | .bl b, v, F => v = .bl b ∧ F = []
  | .int i, v, F => v = .int i ∧ F = []
  | .str s, v, F => v = .str (toS s) ∧ F = []
  | .ty n, v, F => v = .ty n ∧ F = []
  | .pin u d, v, F => v = u ∧ Rp K G H d v F
  | .exn a dd cls row, v, F => (v = .ref a ∧ G a = some (exk (clsV K cls) dd a)) ∧ ∃ w, G dd = some (.xd [("row", w)]) ∧ Rp K G H row w F
  | .tup ds, v, F => ∃ a vs, v = .ref a ∧ G a = some (.tup vs) ∧ RpL K G H ds vs F
  | .lst false ds, v, F => ∃ a vs, v = .ref a ∧ SqL K G a vs ∧ F = [] ∧ RpL K G H ds vs []
  | .lst true ds, v, F => ∃ a vs F', v = .ref a ∧ H a = some (.lst vs) ∧ F = a :: F' ∧ RpL K G H ds vs F'
  | .dK false ks ds, v, F => ∃ a vs, v = .ref a ∧ Rd G a (.dK (kzip ks vs)) ∧ F = [] ∧ ks.length = ds.length ∧ ks.Nodup ∧ RpL K G H ds vs []
  | .dK true ks ds, v, F => ∃ a vs F', v = .ref a ∧ H a = some (.dK (kzip ks vs)) ∧ F = a :: F' ∧ ks.length = ds.length ∧ ks.Nodup ∧ RpL K G H ds vs F'
  | .dT false ks ds, v, F => ∃ a vs, v = .ref a ∧ G a = some (.dT (tzip ks vs)) ∧ F = [] ∧ ks.length = ds.length ∧ ks.Nodup ∧ RpL K G H ds vs []
  | .dT true ks ds, v, F => ∃ a vs F', v = .ref a ∧ H a = some (.dT (tzip ks vs)) ∧ F = a :: F' ∧ ks.length = ds.length ∧ ks.Nodup ∧ RpL K G H ds vs F'
  | .ins false C fs ds, v, F => ∃ a dx vs, v = .ref a ∧ G a = some (.ins (cA K C) dx (fzip fs vs)) ∧ F = [] ∧ fs.length = ds.length ∧ RpL K G H ds vs []
  | .ins true C fs ds, v, F => ∃ a dx vs F', v = .ref a ∧ H a = some (.ins (cA K C) dx (fzip fs vs)) ∧ F = a :: F' ∧ fs.length = ds.length ∧ RpL K G H ds vs F'
def RpL (K : PySem.W.Frag) (G H : Hp) : List D → List V → List Addr → Prop
  | [], vs, F => vs = [] ∧ F = []
  | d :: ds, vs, F => ∃ v vs' F1 F2, vs = v :: vs' ∧ F = F1 ++ F2 ∧ Rp K G H d v F1 ∧ RpL K G H ds vs' F2
end
section
variable {K : PySem.W.Frag} {G G' H H' : Hp}
mutual
/-- carried over: G grows, our own objects stay -/
theorem Rp.mono (hs : Sub G G') : ∀ {d : D} {v : V} {F : List Addr}, (∀ a ∈ F, H' a = H a) → Rp K G H d v F → Rp K G' H' d v F
  | .hole, _, _, _, h => h
  | .val _, _, _, _, h => h
  | .non, _, _, _, h => h
  | .bl _, _, _, _, h => h
  | .int _, _, _, _, h => h
  | .str _, _, _, _, h => h
  | .ty _, _, _, _, h => h
  | .pin u d, v, F, k, h => ⟨h.1, Rp.mono hs k h.2⟩
  | .exn _ _ _ row, v, F, k, h => by
    obtain ⟨e, w, s, r⟩ := h
    exact ⟨⟨e.1, hs _ _ e.2⟩, w, hs _ _ s, Rp.mono hs k r⟩
  | .tup ds, v, F, k, h => by
    obtain ⟨a, vs, e, s, r⟩ := h
    exact ⟨a, vs, e, hs _ _ s, RpL.mono hs k r⟩
  | .lst false ds, v, F, k, h => by
    obtain ⟨a, vs, e, s, f, r⟩ := h
    exact ⟨a, vs, e, hs.sqL s, f, RpL.mono hs (fun _ z => nomatch z) r⟩
  | .lst true ds, v, F, k, h => by
    obtain ⟨a, vs, F', e, s, rfl, r⟩ := h
    exact ⟨a, vs, F', e, (k a List.mem_cons_self).trans s, rfl, RpL.mono hs (fun b z => k b (List.mem_cons_of_mem _ z)) r⟩
  | .dK false ks ds, v, F, k, h => by
    obtain ⟨a, vs, e, s, f, l, n, r⟩ := h
    exact ⟨a, vs, e, hs.rd s, f, l, n, RpL.mono hs (fun _ z => nomatch z) r⟩
  | .dK true ks ds, v, F, k, h => by
    obtain ⟨a, vs, F', e, s, rfl, l, n, r⟩ := h
    exact ⟨a, vs, F', e, (k a List.mem_cons_self).trans s, rfl, l, n, RpL.mono hs (fun b z => k b (List.mem_cons_of_mem _ z)) r⟩
  | .dT false ks ds, v, F, k, h => by
    obtain ⟨a, vs, e, s, f, l, n, r⟩ := h
    exact ⟨a, vs, e, hs _ _ s, f, l, n, RpL.mono hs (fun _ z => nomatch z) r⟩
  | .dT true ks ds, v, F, k, h => by
    obtain ⟨a, vs, F', e, s, rfl, l, n, r⟩ := h
    exact ⟨a, vs, F', e, (k a List.mem_cons_self).trans s, rfl, l, n, RpL.mono hs (fun b z => k b (List.mem_cons_of_mem _ z)) r⟩
  | .ins false C fs ds, v, F, k, h => by
    obtain ⟨a, dx, vs, e, s, f, l, r⟩ := h
    exact ⟨a, dx, vs, e, hs _ _ s, f, l, RpL.mono hs (fun _ z => nomatch z) r⟩
  | .ins true C fs ds, v, F, k, h => by
    obtain ⟨a, dx, vs, F', e, s, rfl, l, r⟩ := h
    exact ⟨a, dx, vs, F', e, (k a List.mem_cons_self).trans s, rfl, l, RpL.mono hs (fun b z => k b (List.mem_cons_of_mem _ z)) r⟩
theorem RpL.mono (hs : Sub G G') : ∀ {ds : List D} {vs : List V} {F : List Addr}, (∀ a ∈ F, H' a = H a) → RpL K G H ds vs F → RpL K G' H' ds vs F
  | [], _, _, _, h => h
  | d :: ds, vs, F, k, h => by
    obtain ⟨v, vs', F1, F2, rfl, rfl, r, rs⟩ := h
    exact ⟨v, vs', F1, F2, rfl, rfl, Rp.mono hs (fun a z => k a (List.mem_append_left _ z)) r, RpL.mono hs (fun a z => k a (List.mem_append_right _ z)) rs⟩
end
mutual
/-- what is ours stands -/
theorem Rp.there : ∀ {d : D} {v : V} {F : List Addr}, Rp K G H d v F → ∀ a ∈ F, ∃ o, H a = some o ∧ Mut (some o)
  | .hole, _, _, h, a, z => by rw [show _ = [] from h] at z; cases z
  | .val _, _, _, h, a, z => by rw [h.2] at z; cases z
  | .non, _, _, h, a, z => by rw [h.2] at z; cases z
  | .bl _, _, _, h, a, z => by rw [h.2] at z; cases z
  | .int _, _, _, h, a, z => by rw [h.2] at z; cases z
  | .str _, _, _, h, a, z => by rw [h.2] at z; cases z
  | .ty _, _, _, h, a, z => by rw [h.2] at z; cases z
  | .pin u d, v, F, h, a, z => Rp.there h.2 a z
  | .exn _ _ _ row, v, F, h, a, z => by
    obtain ⟨e, w, s, r⟩ := h
    exact Rp.there r a z
  | .tup ds, v, F, h, a, z => by
    obtain ⟨_, vs, e, s, r⟩ := h
    exact RpL.there r a z
  | .lst false ds, v, F, h, a, z => by
    obtain ⟨_, vs, e, s, f, r⟩ := h
    rw [f] at z; cases z
  | .lst true ds, v, F, h, a, z => by
    obtain ⟨b, vs, F', e, s, rfl, r⟩ := h
    rcases List.mem_cons.mp z with rfl | z
    · exact ⟨_, s, trivial⟩
    · exact RpL.there r a z
  | .dK false ks ds, v, F, h, a, z => by
    obtain ⟨_, vs, e, s, f, _, _, r⟩ := h
    rw [f] at z; cases z
  | .dK true ks ds, v, F, h, a, z => by
    obtain ⟨b, vs, F', e, s, rfl, _, _, r⟩ := h
    rcases List.mem_cons.mp z with rfl | z
    · exact ⟨_, s, trivial⟩
    · exact RpL.there r a z
  | .dT false ks ds, v, F, h, a, z => by
    obtain ⟨_, vs, e, s, f, _, _, r⟩ := h
    rw [f] at z; cases z
  | .dT true ks ds, v, F, h, a, z => by
    obtain ⟨b, vs, F', e, s, rfl, _, _, r⟩ := h
    rcases List.mem_cons.mp z with rfl | z
    · exact ⟨_, s, trivial⟩
    · exact RpL.there r a z
  | .ins false C fs ds, v, F, h, a, z => by
    obtain ⟨_, _, vs, e, s, f, _, r⟩ := h
    rw [f] at z; cases z
  | .ins true C fs ds, v, F, h, a, z => by
    obtain ⟨b, dx, vs, F', e, s, rfl, _, r⟩ := h
    rcases List.mem_cons.mp z with rfl | z
    · exact ⟨_, s, trivial⟩
    · exact RpL.there r a z
theorem RpL.there : ∀ {ds : List D} {vs : List V} {F : List Addr}, RpL K G H ds vs F → ∀ a ∈ F, ∃ o, H a = some o ∧ Mut (some o)
  | [], _, _, h, a, z => by rw [h.2] at z; cases z
  | d :: ds, vs, F, h, a, z => by
    obtain ⟨v, vs', F1, F2, rfl, rfl, r, rs⟩ := h
    rcases List.mem_append.mp z with z | z
    · exact Rp.there r a z
    · exact RpL.there rs a z
end
theorem RpL.len : ∀ {ds : List D} {vs : List V} {F : List Addr}, RpL K G H ds vs F → ds.length = vs.length
  | [], _, _, h => by rw [h.1]; rfl
  | d :: ds, vs, F, h => by
    obtain ⟨v, vs', F1, F2, rfl, rfl, r, rs⟩ := h
    rw [List.length_cons, List.length_cons, RpL.len rs]
theorem RpL.append : ∀ {ds es : List D} {vs ws : List V} {F1 F2 : List Addr}, RpL K G H ds vs F1 → RpL K G H es ws F2 → RpL K G H (ds ++ es) (vs ++ ws) (F1 ++ F2)
  | [], es, vs, ws, F1, F2, h, k => by
    obtain ⟨rfl, rfl⟩ := h
    exact k
  | d :: ds, es, vs, ws, F1, F2, h, k => by
    obtain ⟨v, vs', A, B, rfl, rfl, r, rs⟩ := h
    exact ⟨v, vs' ++ ws, A, B ++ F2, rfl, List.append_assoc .., r, RpL.append rs k⟩
theorem RpL.split : ∀ {ds es : List D} {us : List V} {F : List Addr}, RpL K G H (ds ++ es) us F → ∃ vs ws F1 F2, us = vs ++ ws ∧ F = F1 ++ F2 ∧ RpL K G H ds vs F1 ∧ RpL K G H es ws F2
  | [], es, us, F, h => ⟨[], us, [], F, rfl, rfl, ⟨rfl, rfl⟩, h⟩
  | d :: ds, es, us, F, h => by
    obtain ⟨v, vs', A, B, rfl, rfl, r, rs⟩ := h
    obtain ⟨vs, ws, F1, F2, rfl, rfl, r1, r2⟩ := RpL.split rs
    exact ⟨v :: vs, ws, A ++ F1, F2, rfl, (List.append_assoc ..).symm, ⟨v, vs, A, F1, rfl, rfl, r, r1⟩, r2⟩
/-- where the values are told already -/
theorem RpL.split2 {ds es : List D} {vs ws : List V} {F : List Addr} (h : RpL K G H (ds ++ es) (vs ++ ws) F) (hl : ds.length = vs.length) : ∃ F1 F2, F = F1 ++ F2 ∧ RpL K G H ds vs F1 ∧ RpL K G H es ws F2 := by
  obtain ⟨vs', ws', F1, F2, e, f, r1, r2⟩ := RpL.split h
  obtain ⟨rfl, rfl⟩ := List.append_inj e (hl.symm.trans r1.len)
  exact ⟨F1, F2, f, r1, r2⟩
theorem RpL.one {d : D} {v : V} {F : List Addr} : RpL K G H [d] [v] F ↔ Rp K G H d v F := by
  constructor
  · rintro ⟨v', vs', F1, F2, e, rfl, r, rfl, rfl⟩
    cases e
    rw [List.append_nil]
    exact r
  · intro r
    exact ⟨v, [], F, [], rfl, (List.append_nil _).symm, r, rfl, rfl⟩
theorem RpL.get : ∀ {ds : List D} {vs : List V} {i : Nat} {d : D}, RpL K G H ds vs [] → ds[i]? = some d → ∃ v, vs[i]? = some v ∧ Rp K G H d v []
  | [], _, _, _, _, e => by simp at e
  | d :: ds, vs, 0, d', h, e => by
    obtain ⟨v, vs', F1, F2, rfl, f, r, rs⟩ := h
    obtain ⟨rfl, rfl⟩ := List.append_eq_nil_iff.mp f.symm
    simp at e
    subst e
    exact ⟨v, rfl, r⟩
  | d :: ds, vs, i + 1, d', h, e => by
    obtain ⟨v, vs', F1, F2, rfl, f, r, rs⟩ := h
    obtain ⟨rfl, rfl⟩ := List.append_eq_nil_iff.mp f.symm
    obtain ⟨w, hw, q⟩ := RpL.get (i := i) rs (by simpa using e)
    exact ⟨w, by simpa using hw, q⟩
/-- one place of a list, the others around it -/
theorem RpL.focus : ∀ {ds : List D} {vs : List V} {F : List Addr} {i : Nat} {d : D}, RpL K G H ds vs F → ds[i]? = some d →
    ∃ v A B C, vs[i]? = some v ∧ F = A ++ B ++ C ∧ Rp K G H d v B ∧ ∀ (G' H' : Hp) (d' : D) (v' : V) (B' : List Addr), Sub G G' → (∀ a ∈ A ++ C, H' a = H a) → Rp K G' H' d' v' B' → RpL K G' H' (ds.set i d') (vs.set i v') (A ++ B' ++ C)
  | [], _, _, _, _, _, e => by simp at e
  | d :: ds, vs, F, 0, d', h, e => by
    obtain ⟨v, vs', F1, F2, rfl, rfl, r, rs⟩ := h
    simp at e
    subst e
    refine ⟨v, [], F1, F2, rfl, rfl, r, fun G' H' d' v' B' hs k r' => ?_⟩
    exact ⟨v', vs', B', F2, rfl, rfl, r', RpL.mono hs k rs⟩
  | d :: ds, vs, F, i + 1, d', h, e => by
    obtain ⟨v, vs', F1, F2, rfl, rfl, r, rs⟩ := h
    obtain ⟨w, A, B, C, hw, rfl, q, back⟩ := RpL.focus (i := i) rs (by simpa using e)
    refine ⟨w, F1 ++ A, B, C, by simpa using hw, by simp only [List.append_assoc], q, fun G' H' d'' v'' B' hs k r' => ?_⟩
    refine ⟨v, vs'.set i v'', F1, A ++ B' ++ C, rfl, by simp only [List.append_assoc], Rp.mono hs (fun a z => k a ?_) r, back G' H' d'' v'' B' hs (fun a z => k a ?_) r'⟩
    · exact List.mem_append_left _ (List.mem_append_left _ z)
    · rcases List.mem_append.mp z with z | z
      · exact List.mem_append_left _ (List.mem_append_right _ z)
      · exact List.mem_append_right _ z
end
mutual
def frz : D → D
  | .hole => .hole
  | .val v => .val v
  | .non => .non
  | .bl b => .bl b
  | .int i => .int i
  | .str s => .str s
  | .ty n => .ty n
  | .pin u d => .pin u (frz d)
  | .exn a dd c row => .exn a dd c (frz row)
  | .tup xs => .tup (frzL xs)
  | .lst _ xs => .lst false (frzL xs)
  | .dK _ ks xs => .dK false ks (frzL xs)
  | .dT _ ks xs => .dT false ks (frzL xs)
  | .ins _ C fs xs => .ins false C fs (frzL xs)
def frzL : List D → List D
  | [] => []
  | d :: ds => frz d :: frzL ds
end
mutual
/-- nothing in it is ours -/
def isFz : D → Bool
  | .hole => true
  | .val _ => true
  | .non => true
  | .bl _ => true
  | .int _ => true
  | .str _ => true
  | .ty _ => true
  | .pin _ d => isFz d
  | .exn _ _ _ row => isFz row
  | .tup xs => isFzL xs
  | .lst m xs => !m && isFzL xs
  | .dK m _ xs => !m && isFzL xs
  | .dT m _ xs => !m && isFzL xs
  | .ins m _ _ xs => !m && isFzL xs
def isFzL : List D → Bool
  | [] => true
  | d :: ds => isFz d && isFzL ds
end
theorem frzL_map : ∀ ds : List D, frzL ds = ds.map frz
  | [] => rfl
  | d :: ds => by rw [frzL, frzL_map ds, List.map_cons]
theorem isFzL_all : ∀ ds : List D, isFzL ds = ds.all isFz
  | [] => rfl
  | d :: ds => by rw [isFzL, isFzL_all ds, List.all_cons]
section
variable {K : PySem.W.Frag} {G G' H H' : Hp}
mutual
theorem Rp.fz : ∀ {d : D} {v : V} {F : List Addr}, isFz d = true → Rp K G H d v F → F = []
  | .hole, _, _, _, h => h
  | .val _, _, _, _, h => h.2
  | .non, _, _, _, h => h.2
  | .bl _, _, _, _, h => h.2
  | .int _, _, _, _, h => h.2
  | .str _, _, _, _, h => h.2
  | .ty _, _, _, _, h => h.2
  | .pin u d, v, F, q, h => Rp.fz (d := d) q h.2
  | .exn _ _ _ row, v, F, q, h => by
    obtain ⟨e, w, s, r⟩ := h
    exact Rp.fz (d := row) q r
  | .tup ds, v, F, q, h => by
    obtain ⟨_, vs, e, s, r⟩ := h
    exact RpL.fz (by simpa [isFz] using q) r
  | .lst false ds, v, F, q, h => by
    obtain ⟨_, vs, e, s, f, r⟩ := h
    exact f
  | .lst true ds, v, F, q, h => by simp [isFz] at q
  | .dK false ks ds, v, F, q, h => by
    obtain ⟨_, vs, e, s, f, _⟩ := h
    exact f
  | .dK true ks ds, v, F, q, h => by simp [isFz] at q
  | .dT false ks ds, v, F, q, h => by
    obtain ⟨_, vs, e, s, f, _⟩ := h
    exact f
  | .dT true ks ds, v, F, q, h => by simp [isFz] at q
  | .ins false C fs ds, v, F, q, h => by
    obtain ⟨_, _, vs, e, s, f, _⟩ := h
    exact f
  | .ins true C fs ds, v, F, q, h => by simp [isFz] at q
theorem RpL.fz : ∀ {ds : List D} {vs : List V} {F : List Addr}, isFzL ds = true → RpL K G H ds vs F → F = []
  | [], _, _, _, h => h.2
  | d :: ds, vs, F, q, h => by
    obtain ⟨v, vs', F1, F2, rfl, rfl, r, rs⟩ := h
    have q2 : (isFz d && isFzL ds) = true := q
    obtain ⟨q3, q4⟩ := Bool.and_eq_true_iff.mp q2
    rw [Rp.fz q3 r, RpL.fz q4 rs]
    rfl
end
mutual
/-- what is ours is let stand still -/
theorem Rp.freeze (hs : Sub G G') : ∀ {d : D} {v : V} {F : List Addr}, (∀ a ∈ F, G' a = H a) → Rp K G H d v F → Rp K G' H' (frz d) v []
  | .hole, _, _, _, h => rfl
  | .val _, _, _, _, h => ⟨h.1, rfl⟩
  | .non, _, _, _, h => ⟨h.1, rfl⟩
  | .bl _, _, _, _, h => ⟨h.1, rfl⟩
  | .int _, _, _, _, h => ⟨h.1, rfl⟩
  | .str _, _, _, _, h => ⟨h.1, rfl⟩
  | .ty _, _, _, _, h => ⟨h.1, rfl⟩
  | .pin u d, v, F, k, h => ⟨h.1, Rp.freeze hs k h.2⟩
  | .exn _ _ _ row, v, F, k, h => by
    obtain ⟨e, w, s, r⟩ := h
    exact ⟨⟨e.1, hs _ _ e.2⟩, w, hs _ _ s, Rp.freeze hs k r⟩
  | .tup ds, v, F, k, h => by
    obtain ⟨a, vs, e, s, r⟩ := h
    exact ⟨a, vs, e, hs _ _ s, RpL.freeze hs k r⟩
  | .lst false ds, v, F, k, h => by
    obtain ⟨a, vs, e, s, f, r⟩ := h
    exact ⟨a, vs, e, hs.sqL s, rfl, RpL.freeze (F := []) hs (fun _ z => nomatch z) r⟩
  | .lst true ds, v, F, k, h => by
    obtain ⟨a, vs, F', e, s, rfl, r⟩ := h
    exact ⟨a, vs, e, SqL.of ((k a List.mem_cons_self).trans s), rfl, RpL.freeze hs (fun b z => k b (List.mem_cons_of_mem _ z)) r⟩
  | .dK false ks ds, v, F, k, h => by
    obtain ⟨a, vs, e, s, f, l, n, r⟩ := h
    exact ⟨a, vs, e, hs.rd s, rfl, by rw [frzL_map, List.length_map]; exact l, n, RpL.freeze (F := []) hs (fun _ z => nomatch z) r⟩
  | .dK true ks ds, v, F, k, h => by
    obtain ⟨a, vs, F', e, s, rfl, l, n, r⟩ := h
    exact ⟨a, vs, e, .inl ((k a List.mem_cons_self).trans s), rfl, by rw [frzL_map, List.length_map]; exact l, n, RpL.freeze hs (fun b z => k b (List.mem_cons_of_mem _ z)) r⟩
  | .dT false ks ds, v, F, k, h => by
    obtain ⟨a, vs, e, s, f, l, n, r⟩ := h
    exact ⟨a, vs, e, hs _ _ s, rfl, by rw [frzL_map, List.length_map]; exact l, n, RpL.freeze (F := []) hs (fun _ z => nomatch z) r⟩
  | .dT true ks ds, v, F, k, h => by
    obtain ⟨a, vs, F', e, s, rfl, l, n, r⟩ := h
    exact ⟨a, vs, e, (k a List.mem_cons_self).trans s, rfl, by rw [frzL_map, List.length_map]; exact l, n, RpL.freeze hs (fun b z => k b (List.mem_cons_of_mem _ z)) r⟩
  | .ins false C fs ds, v, F, k, h => by
    obtain ⟨a, dx, vs, e, s, f, l, r⟩ := h
    exact ⟨a, dx, vs, e, hs _ _ s, rfl, by rw [frzL_map, List.length_map]; exact l, RpL.freeze (F := []) hs (fun _ z => nomatch z) r⟩
  | .ins true C fs ds, v, F, k, h => by
    obtain ⟨a, dx, vs, F', e, s, rfl, l, r⟩ := h
    exact ⟨a, dx, vs, e, (k a List.mem_cons_self).trans s, rfl, by rw [frzL_map, List.length_map]; exact l, RpL.freeze hs (fun b z => k b (List.mem_cons_of_mem _ z)) r⟩
theorem RpL.freeze (hs : Sub G G') : ∀ {ds : List D} {vs : List V} {F : List Addr}, (∀ a ∈ F, G' a = H a) → RpL K G H ds vs F → RpL K G' H' (frzL ds) vs []
  | [], _, _, _, h => ⟨h.1, rfl⟩
  | d :: ds, vs, F, k, h => by
    obtain ⟨v, vs', F1, F2, rfl, rfl, r, rs⟩ := h
    exact ⟨v, vs', [], [], rfl, rfl, Rp.freeze hs (fun a z => k a (List.mem_append_left _ z)) r, RpL.freeze hs (fun a z => k a (List.mem_append_right _ z)) rs⟩
end
end
mutual
theorem frz_id : ∀ {d : D}, isFz d = true → frz d = d
  | .hole, _ => rfl
  | .val _, _ => rfl
  | .non, _ => rfl
  | .bl _, _ => rfl
  | .int _, _ => rfl
  | .str _, _ => rfl
  | .ty _, _ => rfl
  | .pin u d, q => by rw [frz, frz_id (d := d) q]
  | .exn _ _ _ row, q => by rw [frz, frz_id (d := row) q]
  | .tup xs, q => by rw [frz, frzL_id (by simpa [isFz] using q)]
  | .lst m xs, q => by
    obtain ⟨q1, q2⟩ := Bool.and_eq_true_iff.mp (show (!m && isFzL xs) = true from q)
    rw [frz, frzL_id q2, show m = false by simpa using q1]
  | .dK m ks xs, q => by
    obtain ⟨q1, q2⟩ := Bool.and_eq_true_iff.mp (show (!m && isFzL xs) = true from q)
    rw [frz, frzL_id q2, show m = false by simpa using q1]
  | .dT m ks xs, q => by
    obtain ⟨q1, q2⟩ := Bool.and_eq_true_iff.mp (show (!m && isFzL xs) = true from q)
    rw [frz, frzL_id q2, show m = false by simpa using q1]
  | .ins m C fs xs, q => by
    obtain ⟨q1, q2⟩ := Bool.and_eq_true_iff.mp (show (!m && isFzL xs) = true from q)
    rw [frz, frzL_id q2, show m = false by simpa using q1]
theorem frzL_id : ∀ {ds : List D}, isFzL ds = true → frzL ds = ds
  | [], _ => rfl
  | d :: ds, q => by
    obtain ⟨q1, q2⟩ := Bool.and_eq_true_iff.mp (show (isFz d && isFzL ds) = true from q)
    rw [frzL, frz_id q1, frzL_id q2]
end
mutual
theorem isFz_frz : ∀ d : D, isFz (frz d) = true
  | .hole => rfl
  | .val _ => rfl
  | .non => rfl
  | .bl _ => rfl
  | .int _ => rfl
  | .str _ => rfl
  | .ty _ => rfl
  | .pin u d => by rw [frz, isFz, isFz_frz]
  | .exn _ _ _ row => by rw [frz, isFz, isFz_frz]
  | .tup xs => by rw [frz, isFz, isFzL_frz]
  | .lst m xs => by rw [frz, isFz, isFzL_frz]; rfl
  | .dK m ks xs => by rw [frz, isFz, isFzL_frz]; rfl
  | .dT m ks xs => by rw [frz, isFz, isFzL_frz]; rfl
  | .ins m C fs xs => by rw [frz, isFz, isFzL_frz]; rfl
theorem isFzL_frz : ∀ ds : List D, isFzL (frzL ds) = true
  | [] => rfl
  | d :: ds => by rw [frzL, isFzL, isFz_frz, isFzL_frz]; rfl
end
end VL
namespace VL
open PySem PySem.Spec PyProof.Rows L2 VL
abbrev Ep := List (Option D)
/-- a slot: told, or not told -/
def RpO (K : PySem.W.Frag) (G H : Hp) : Option D → Option V → List Addr → Prop
  | none, _, F => F = []
  | some d, ov, F => ∃ v, ov = some v ∧ Rp K G H d v F
def RpS (K : PySem.W.Frag) (G H : Hp) : Ep → L2.St → List Addr → Prop
  | [], σ, F => σ = [] ∧ F = []
  | od :: ε, σ, F => ∃ ov σ' F1 F2, σ = ov :: σ' ∧ F = F1 ++ F2 ∧ RpO K G H od ov F1 ∧ RpS K G H ε σ' F2
section
variable {K : PySem.W.Frag} {G G' H H' : Hp}
theorem RpO.mono (hs : Sub G G') {od : Option D} {ov : Option V} {F : List Addr} (k : ∀ a ∈ F, H' a = H a) (h : RpO K G H od ov F) : RpO K G' H' od ov F := by
  cases od with
  | none => exact h
  | some d =>
    obtain ⟨v, e, r⟩ := h
    exact ⟨v, e, r.mono hs k⟩
theorem RpS.mono (hs : Sub G G') : ∀ {ε : Ep} {σ : L2.St} {F : List Addr}, (∀ a ∈ F, H' a = H a) → RpS K G H ε σ F → RpS K G' H' ε σ F
  | [], _, _, _, h => h
  | od :: ε, σ, F, k, h => by
    obtain ⟨ov, σ', F1, F2, rfl, rfl, r, rs⟩ := h
    exact ⟨ov, σ', F1, F2, rfl, rfl, r.mono hs (fun a z => k a (List.mem_append_left _ z)), RpS.mono hs (fun a z => k a (List.mem_append_right _ z)) rs⟩
theorem RpS.there : ∀ {ε : Ep} {σ : L2.St} {F : List Addr}, RpS K G H ε σ F → ∀ a ∈ F, ∃ o, H a = some o ∧ Mut (some o)
  | [], _, _, h, a, z => by rw [h.2] at z; cases z
  | od :: ε, σ, F, h, a, z => by
    obtain ⟨ov, σ', F1, F2, rfl, rfl, r, rs⟩ := h
    rcases List.mem_append.mp z with z | z
    · cases od with
      | none => rw [show F1 = [] from r] at z; cases z
      | some d =>
        obtain ⟨v, _, r⟩ := r
        exact r.there a z
    · exact RpS.there rs a z
theorem RpS.focus : ∀ {ε : Ep} {σ : L2.St} {F : List Addr} {i : Nat} {od : Option D}, RpS K G H ε σ F → ε[i]? = some od →
    ∃ ov A B C, σ[i]? = some ov ∧ F = A ++ B ++ C ∧ RpO K G H od ov B ∧ ∀ (G' H' : Hp) (od' : Option D) (ov' : Option V) (B' : List Addr), Sub G G' → (∀ a ∈ A ++ C, H' a = H a) → RpO K G' H' od' ov' B' → RpS K G' H' (ε.set i od') (σ.set i ov') (A ++ B' ++ C)
  | [], _, _, _, _, _, e => by simp at e
  | od :: ε, σ, F, 0, od', h, e => by
    obtain ⟨ov, σ', F1, F2, rfl, rfl, r, rs⟩ := h
    simp at e
    subst e
    refine ⟨ov, [], F1, F2, rfl, rfl, r, fun G' H' od' ov' B' hs k r' => ?_⟩
    exact ⟨ov', σ', B', F2, rfl, rfl, r', RpS.mono hs k rs⟩
  | od :: ε, σ, F, i + 1, od', h, e => by
    obtain ⟨ov, σ', F1, F2, rfl, rfl, r, rs⟩ := h
    obtain ⟨w, A, B, C, hw, rfl, q, back⟩ := RpS.focus (i := i) rs (by simpa using e)
    refine ⟨w, F1 ++ A, B, C, by simpa using hw, by simp only [List.append_assoc], q, fun G' H' od'' ov'' B' hs k r' => ?_⟩
    refine ⟨ov, σ'.set i ov'', F1, A ++ B' ++ C, rfl, by simp only [List.append_assoc], r.mono hs (fun a z => k a ?_), back G' H' od'' ov'' B' hs (fun a z => k a ?_) r'⟩
    · exact List.mem_append_left _ (List.mem_append_left _ z)
    · rcases List.mem_append.mp z with z | z
      · exact List.mem_append_left _ (List.mem_append_right _ z)
      · exact List.mem_append_right _ z
theorem RpS.len : ∀ {ε : Ep} {σ : L2.St} {F : List Addr}, RpS K G H ε σ F → ε.length = σ.length
  | [], _, _, h => by rw [h.1]; rfl
  | od :: ε, σ, F, h => by
    obtain ⟨ov, σ', F1, F2, rfl, rfl, r, rs⟩ := h
    rw [List.length_cons, List.length_cons, RpS.len rs]
end
/-- the ground of a def's run: the heap at the entry, what stands still in it, what was handed in to be changed, the kept parameters' values -/
structure Bs where
  H0 : Hp
  G0 : Hp
  F0 : List Addr
  kv : List (Option V) := []
structure SIx (K : PySem.W.Frag) (b : Bs) (G : Hp) (F Ft : List Addr) (σ : L2.St) (H : Hp) (ε : Ep) (T : List D) (Tv : List V) : Prop where
  s0 : Sub b.G0 G
  sub : Sub G H
  slots : RpS K G H ε σ F
  temps : RpL K G H T Tv Ft
  nd : (F ++ Ft).Nodup
  fr : ∀ a ∈ F ++ Ft, G a = none
  own : ∀ a ∈ F ++ Ft, a ∈ b.F0 ∨ b.H0 a = none
  gn : ∀ a o, G a = some o → b.G0 a = some o ∨ a ∈ b.F0 ∨ b.H0 a = none ∨ ∃ vs, o = .tup vs
  keep : ∀ a o, b.H0 a = some o → a ∉ b.F0 → H a = some o
  kept : ∀ (j : Nat) v, b.kv[j]? = some (some v) → σ[j]? = some (some v)
theorem inl3 {p q r : Prop} (h : p ∨ q) : p ∨ q ∨ r := h.elim .inl fun h => .inr (.inl h)
def SI (K : PySem.W.Frag) (b : Bs) (σ : L2.St) (H : Hp) (ε : Ep) (T : List D) (Tv : List V) : Prop := ∃ G F Ft, SIx K b G F Ft σ H ε T Tv
section
variable {K : PySem.W.Frag} {b : Bs} {σ : L2.St} {H H' : Hp} {ε : Ep} {T : List D} {Tv : List V}
theorem SIx.lenT {G F Ft} (I : SIx K b G F Ft σ H ε T Tv) : T.length = Tv.length := I.temps.len
theorem SI.lenT (I : SI K b σ H ε T Tv) : T.length = Tv.length := let ⟨_, _, _, J⟩ := I; J.lenT
theorem SIx.ne {G F Ft} (I : SIx K b G F Ft σ H ε T Tv) {p : Addr} (n : H p = none) : p ∉ F ++ Ft := fun z => by
  rcases List.mem_append.mp z with z | z
  · obtain ⟨o, e, _⟩ := I.slots.there p z
    rw [n] at e; cases e
  · obtain ⟨o, e, _⟩ := I.temps.there p z
    rw [n] at e; cases e
theorem SIx.gne {G F Ft} (I : SIx K b G F Ft σ H ε T Tv) {p : Addr} (n : H p = none) : G p = none := by
  cases e : G p with
  | none => rfl
  | some o =>
    have := I.sub p o e
    rw [n] at this; cases this
theorem SIx.h0 {G F Ft} (I : SIx K b G F Ft σ H ε T Tv) {p : Addr} (n : H p = none) : p ∈ b.F0 ∨ b.H0 p = none := by
  cases e : b.H0 p with
  | none => exact .inr rfl
  | some o =>
    by_cases h : p ∈ b.F0
    · exact .inl h
    · have := I.keep p o e h
      rw [n] at this; cases this
/-- the heap grows -/
theorem SIx.grow {G F Ft} (I : SIx K b G F Ft σ H ε T Tv) (h : Sub H H') : SIx K b G F Ft σ H' ε T Tv where
  s0 := I.s0
  sub := I.sub.trans h
  slots := I.slots.mono Sub.refl fun a z => by
    obtain ⟨o, e, _⟩ := I.slots.there a z
    rw [e, h a o e]
  temps := I.temps.mono Sub.refl fun a z => by
    obtain ⟨o, e, _⟩ := I.temps.there a z
    rw [e, h a o e]
  nd := I.nd
  fr := I.fr
  own := I.own
  gn := I.gn
  keep := fun a o e n => h a o (I.keep a o e n)
  kept := I.kept
theorem SI.grow (I : SI K b σ H ε T Tv) (h : Sub H H') : SI K b σ H' ε T Tv := let ⟨G, F, Ft, J⟩ := I; ⟨G, F, Ft, J.grow h⟩
/-- the last held things are let go -/
theorem SI.drop {R : List D} {Rv : List V} (I : SI K b σ H ε (T ++ R) (Tv ++ Rv)) (hl : T.length = Tv.length) : SI K b σ H ε T Tv := by
  obtain ⟨G, F, Ft, J⟩ := I
  obtain ⟨F1, F2, rfl, r1, r2⟩ := J.temps.split2 hl
  have sb : ∀ a, a ∈ F ++ F1 → a ∈ F ++ (F1 ++ F2) := fun a z => by
    rcases List.mem_append.mp z with z | z
    · exact List.mem_append_left _ z
    · exact List.mem_append_right _ (List.mem_append_left _ z)
  refine ⟨G, F, F1, J.s0, J.sub, J.slots, r1, ?_, fun a z => J.fr a (sb a z), fun a z => J.own a (sb a z), J.gn, J.keep, J.kept⟩
  have := J.nd
  rw [← List.append_assoc] at this
  exact (List.nodup_append.mp this).1
/-- a thing that stands still is held -/
theorem SIx.push {G F Ft} (I : SIx K b G F Ft σ H ε T Tv) {d : D} {v : V} (r : Rp K G H d v []) : SIx K b G F Ft σ H ε (T ++ [d]) (Tv ++ [v]) := by
  have h := I.temps.append (RpL.one.mpr r)
  rw [List.append_nil] at h
  exact ⟨I.s0, I.sub, I.slots, h, I.nd, I.fr, I.own, I.gn, I.keep, I.kept⟩
theorem SI.push (I : SI K b σ H ε T Tv) {d : D} {v : V} (r : ∀ G, Rp K G H d v []) : SI K b σ H ε (T ++ [d]) (Tv ++ [v]) := let ⟨G, F, Ft, J⟩ := I; ⟨G, F, Ft, J.push (r G)⟩
/-- a slot that stands still -/
theorem SI.var (I : SI K b σ H ε T Tv) {i : Nat} {d : D} (e : ε[i]? = some (some d)) (z : isFz d = true) : ∃ v, σ[i]? = some (some v) ∧ SI K b σ H ε (T ++ [d]) (Tv ++ [v]) := by
  obtain ⟨G, F, Ft, J⟩ := I
  obtain ⟨ov, A, B, C, hs, rfl, r, _⟩ := J.slots.focus e
  obtain ⟨v, rfl, r⟩ := r
  have := r.fz z
  subst this
  exact ⟨v, hs, G, _, Ft, J.push r⟩
/-- a slot is moved out -/
theorem SI.mov (I : SI K b σ H ε T Tv) {i : Nat} {d : D} (e : ε[i]? = some (some d)) : ∃ v, σ[i]? = some (some v) ∧ SI K b σ H (ε.set i none) (T ++ [d]) (Tv ++ [v]) := by
  obtain ⟨G, F, Ft, J⟩ := I
  obtain ⟨ov, A, B, C, hs, rfl, r, back⟩ := J.slots.focus e
  obtain ⟨v, rfl, r⟩ := r
  have s2 := back G H none (some v) [] Sub.refl (fun _ _ => rfl) rfl
  have es : σ.set i (some v) = σ := by
    apply List.ext_getElem?
    intro j
    rw [List.getElem?_set]
    split
    · rename_i h
      subst h
      split
      · exact hs.symm
      · rename_i h
        rw [List.getElem?_eq_none (by omega)] at hs
        cases hs
    · rfl
  rw [es, List.append_nil] at s2
  have pm : (A ++ B ++ C ++ Ft).Perm (A ++ C ++ (Ft ++ B)) := by
    have h1 : (A ++ B ++ C ++ Ft).Perm (A ++ C ++ Ft ++ B) := by
      have : (A ++ B ++ (C ++ Ft)).Perm (A ++ (C ++ Ft) ++ B) := by
        rw [List.append_assoc, List.append_assoc]
        exact List.Perm.append_left A List.perm_append_comm
      simpa only [List.append_assoc] using this
    simpa only [List.append_assoc] using h1
  refine ⟨v, hs, G, A ++ C, Ft ++ B, J.s0, J.sub, s2, J.temps.append (RpL.one.mpr r), pm.nodup_iff.mp J.nd, fun a z => J.fr a (pm.mem_iff.mpr z), fun a z => J.own a (pm.mem_iff.mpr z), J.gn, J.keep, J.kept⟩
/-- the last held thing goes to a slot; what was there is let go -/
theorem SI.store {d : D} {v : V} (I : SI K b σ H ε (T ++ [d]) (Tv ++ [v])) (hl : T.length = Tv.length) {i : Nat} (hi : i < ε.length) (hk : ∀ u, b.kv[i]? ≠ some (some u)) : SI K b (σ.set i (some v)) H (ε.set i (some d)) T Tv := by
  obtain ⟨G, F, Ft, J⟩ := I
  obtain ⟨F1, F2, rfl, r1, r2⟩ := J.temps.split2 hl
  have r2 := RpL.one.mp r2
  obtain ⟨ov, A, B, C, hs, rfl, r, back⟩ := J.slots.focus (i := i) (List.getElem?_eq_getElem hi)
  have s2 := back G H (some d) (some v) F2 Sub.refl (fun _ _ => rfl) ⟨v, rfl, r2⟩
  have sb : ∀ a, a ∈ A ++ F2 ++ C ++ F1 → a ∈ A ++ B ++ C ++ (F1 ++ F2) := fun a z => by
    simp only [List.mem_append] at z ⊢
    rcases z with ((z | z) | z) | z
    · exact .inl (.inl (.inl z))
    · exact .inr (.inr z)
    · exact .inl (.inr z)
    · exact .inr (.inl z)
  have nd : (A ++ F2 ++ C ++ F1).Nodup := by
    have h1 : (A ++ B ++ C ++ (F1 ++ F2)).Perm (B ++ (A ++ F2 ++ C ++ F1)) := by
      apply List.perm_iff_count.mpr
      intro a
      simp only [List.count_append]
      omega
    exact (List.nodup_append.mp (h1.nodup_iff.mp J.nd)).2.1
  refine ⟨G, _, F1, J.s0, J.sub, s2, r1, nd, fun a z => J.fr a (sb a z), fun a z => J.own a (sb a z), J.gn, J.keep, fun j u e => ?_⟩
  have hj : i ≠ j := fun z => by
    subst z
    exact hk u e
  rw [List.getElem?_set_ne hj]
  exact J.kept j u e
/-- a slot is told again that was moved out, its value as it was -/
theorem SI.back {d : D} {v : V} (I : SI K b σ H ε (T ++ [d]) (Tv ++ [v])) (hl : T.length = Tv.length) {i : Nat} (hs : σ[i]? = some (some v)) : SI K b σ H (ε.set i (some d)) T Tv := by
  obtain ⟨G, F, Ft, J⟩ := I
  obtain ⟨F1, F2, rfl, r1, r2⟩ := J.temps.split2 hl
  have r2 := RpL.one.mp r2
  have hi : i < ε.length := by
    rw [J.slots.len]
    exact (List.getElem?_eq_some_iff.mp hs).1
  obtain ⟨ov, A, B, C, hs', rfl, r, back⟩ := J.slots.focus (i := i) (List.getElem?_eq_getElem hi)
  have s2 := back G H (some d) (some v) F2 Sub.refl (fun _ _ => rfl) ⟨v, rfl, r2⟩
  have es : σ.set i (some v) = σ := by
    apply List.ext_getElem?
    intro j
    rw [List.getElem?_set]
    split
    · rename_i h
      subst h
      split
      · exact hs.symm
      · rename_i h
        rw [List.getElem?_eq_none (by omega)] at hs
        cases hs
    · rfl
  rw [es] at s2
  have sb : ∀ a, a ∈ A ++ F2 ++ C ++ F1 → a ∈ A ++ B ++ C ++ (F1 ++ F2) := fun a z => by
    simp only [List.mem_append] at z ⊢
    rcases z with ((z | z) | z) | z
    · exact .inl (.inl (.inl z))
    · exact .inr (.inr z)
    · exact .inl (.inr z)
    · exact .inr (.inl z)
  have nd : (A ++ F2 ++ C ++ F1).Nodup := by
    have h1 : (A ++ B ++ C ++ (F1 ++ F2)).Perm (B ++ (A ++ F2 ++ C ++ F1)) := by
      apply List.perm_iff_count.mpr
      intro a
      simp only [List.count_append]
      omega
    exact (List.nodup_append.mp (h1.nodup_iff.mp J.nd)).2.1
  exact ⟨G, _, F1, J.s0, J.sub, s2, r1, nd, fun a z => J.fr a (sb a z), fun a z => J.own a (sb a z), J.gn, J.keep, J.kept⟩
/-- the last held thing is let stand still -/
theorem SI.freeze {d : D} {v : V} (I : SI K b σ H ε (T ++ [d]) (Tv ++ [v])) (hl : T.length = Tv.length) : SI K b σ H ε (T ++ [frz d]) (Tv ++ [v]) := by
  obtain ⟨G, F, Ft, J⟩ := I
  obtain ⟨F1, F2, rfl, r1, r2⟩ := J.temps.split2 hl
  have r2 := RpL.one.mp r2
  let G' : Hp := fun a => if a ∈ F2 then H a else G a
  have g1 : ∀ a ∈ F2, G' a = H a := fun a z => if_pos z
  have g2 : ∀ a, a ∉ F2 → G' a = G a := fun a z => if_neg z
  have nF : ∀ a ∈ F2, G a = none := fun a z => J.fr a (List.mem_append_right _ (List.mem_append_right _ z))
  have hs : Sub G G' := fun a o e => by
    by_cases h : a ∈ F2
    · rw [nF a h] at e; cases e
    · rw [g2 a h]; exact e
  have dj : ∀ a ∈ F ++ F1, a ∉ F2 := fun a z h => by
    have := J.nd
    rw [← List.append_assoc] at this
    exact (List.nodup_append.mp this).2.2 a z a h rfl
  have sb : ∀ a, a ∈ F ++ F1 → a ∈ F ++ (F1 ++ F2) := fun a z => by
    rcases List.mem_append.mp z with z | z
    · exact List.mem_append_left _ z
    · exact List.mem_append_right _ (List.mem_append_left _ z)
  refine ⟨G', F, F1, J.s0.trans hs, fun a o e => ?_, J.slots.mono hs (fun _ _ => rfl), ?_, ?_, fun a z => ?_, fun a z => J.own a (sb a z), fun a o e => ?_, J.keep, J.kept⟩
  · by_cases h : a ∈ F2
    · rw [g1 a h] at e; exact e
    · rw [g2 a h] at e; exact J.sub a o e
  · have := (r1.mono (H' := H) hs (fun _ _ => rfl)).append (RpL.one.mpr (Rp.freeze (H' := H) hs g1 r2))
    rw [List.append_nil] at this
    exact this
  · have := J.nd
    rw [← List.append_assoc] at this
    exact (List.nodup_append.mp this).1
  · rw [g2 a (dj a z)]
    exact J.fr a (sb a z)
  · by_cases h : a ∈ F2
    · exact .inr (inl3 (J.own a (List.mem_append_right _ (List.mem_append_right _ h))))
    · rw [g2 a h] at e
      exact J.gn a o e
/-- a new object that is ours, out of the last held things -/
theorem SI.laid {ds : List D} {vs : List V} (I : SI K b σ H ε (T ++ ds) (Tv ++ vs)) (hl : T.length = Tv.length) {p : Addr} (n : H p = none) (o : HO) {d : D}
    (r : ∀ (G H' : Hp) (F : List Addr), H' p = some o → RpL K G H' ds vs F → Rp K G H' d (.ref p) (p :: F)) : SI K b σ (upd H p o) ε (T ++ [d]) (Tv ++ [.ref p]) := by
  obtain ⟨G, F, Ft, J⟩ := I
  obtain ⟨F1, F2, rfl, r1, r2⟩ := J.temps.split2 hl
  have np := J.ne n
  have su : Sub H (upd H p o) := Sub.laid n
  have ev : ∀ a ∈ F ++ (F1 ++ F2), upd H p o a = H a := fun a z => upd_ne fun e => np (e ▸ z)
  refine ⟨G, F, F1 ++ (p :: F2), J.s0, J.sub.trans su, J.slots.mono Sub.refl fun a z => ev a (List.mem_append_left _ z), ?_, ?_, fun a z => ?_, fun a z => ?_, J.gn, fun a u e h => su a u (J.keep a u e h), J.kept⟩
  · refine (r1.mono Sub.refl fun a z => ev a (List.mem_append_right _ (List.mem_append_left _ z))).append (RpL.one.mpr ?_)
    exact r G _ F2 upd_same (r2.mono Sub.refl fun a z => ev a (List.mem_append_right _ (List.mem_append_right _ z)))
  · have h1 : (F ++ (F1 ++ (p :: F2))).Perm (p :: (F ++ (F1 ++ F2))) := by
      apply List.perm_iff_count.mpr
      intro a
      simp only [List.count_append, List.count_cons]
      omega
    exact h1.nodup_iff.mpr (List.nodup_cons.mpr ⟨np, J.nd⟩)
  · by_cases h : a = p
    · subst h; exact J.gne n
    · refine J.fr a ?_
      simp only [List.mem_append, List.mem_cons] at z ⊢
      rcases z with z | z | z | z
      · exact .inl z
      · exact .inr (.inl z)
      · exact absurd z h
      · exact .inr (.inr z)
  · by_cases h : a = p
    · subst h; exact J.h0 n
    · refine J.own a ?_
      simp only [List.mem_append, List.mem_cons] at z ⊢
      rcases z with z | z | z | z
      · exact .inl z
      · exact .inr (.inl z)
      · exact absurd z h
      · exact .inr (.inr z)
/-- a new tuple out of the last held things -/
theorem SI.tup {ds : List D} {vs : List V} (I : SI K b σ H ε (T ++ ds) (Tv ++ vs)) (hl : T.length = Tv.length) {p : Addr} (n : H p = none) : SI K b σ (upd H p (.tup vs)) ε (T ++ [.tup ds]) (Tv ++ [.ref p]) := by
  obtain ⟨G, F, Ft, J⟩ := I
  obtain ⟨F1, F2, rfl, r1, r2⟩ := J.temps.split2 hl
  have np := J.ne n
  have gp := J.gne n
  have su : Sub H (upd H p (.tup vs)) := Sub.laid n
  have sg : Sub G (upd G p (.tup vs)) := Sub.laid gp
  have ev : ∀ a ∈ F ++ (F1 ++ F2), upd H p (.tup vs) a = H a := fun a z => upd_ne fun e => np (e ▸ z)
  refine ⟨upd G p (.tup vs), F, F1 ++ F2, J.s0.trans sg, J.sub.upd2, J.slots.mono sg fun a z => ev a (List.mem_append_left _ z), ?_, J.nd, fun a z => ?_, J.own, fun a o e => ?_, fun a u e h => su a u (J.keep a u e h), J.kept⟩
  · refine (r1.mono sg fun a z => ev a (List.mem_append_right _ (List.mem_append_left _ z))).append (RpL.one.mpr ?_)
    exact ⟨p, vs, rfl, upd_same, r2.mono sg fun a z => ev a (List.mem_append_right _ (List.mem_append_right _ z))⟩
  · have ha : a ≠ p := fun e => np (e ▸ z)
    rw [upd_ne ha]
    exact J.fr a z
  · by_cases h : a = p
    · subst h; exact .inr (inl3 (J.h0 n))
    · rw [upd_ne h] at e
      exact J.gn a o e
end
end VL
namespace VL
open PySem PySem.Spec PyProof.Rows L2 VL
section
variable {K : PySem.W.Frag} {b : Bs} {σ : L2.St} {H H' : Hp} {ε : Ep} {T : List D} {Tv : List V}
theorem setSelf {α : Type} {l : List α} {i : Nat} {x : α} (h : l[i]? = some x) : l.set i x = l := by
  apply List.ext_getElem?
  intro j
  rw [List.getElem?_set]
  split
  · rename_i e
    subst e
    split
    · exact h.symm
    · rename_i e
      rw [List.getElem?_eq_none (by omega)] at h
      cases h
  · rfl
/-- a held thing amid others is let go -/
theorem SI.midDrop {d : D} {v : V} {R : List D} {Rv : List V} (I : SI K b σ H ε (T ++ d :: R) (Tv ++ v :: Rv)) (hl : T.length = Tv.length) : SI K b σ H ε (T ++ R) (Tv ++ Rv) := by
  obtain ⟨G, F, Ft, J⟩ := I
  obtain ⟨F1, F2, rfl, r1, r2⟩ := J.temps.split2 hl
  obtain ⟨v', vs', A, B, e, rfl, rd, rs⟩ := r2
  obtain ⟨rfl, rfl⟩ := List.cons.inj e
  have sb : ∀ a, a ∈ F ++ (F1 ++ B) → a ∈ F ++ (F1 ++ (A ++ B)) := fun a z => by
    simp only [List.mem_append] at z ⊢
    rcases z with z | z | z
    · exact .inl z
    · exact .inr (.inl z)
    · exact .inr (.inr (.inr z))
  have nd : (F ++ (F1 ++ B)).Nodup := by
    have h1 : (F ++ (F1 ++ (A ++ B))).Perm (A ++ (F ++ (F1 ++ B))) := by
      apply List.perm_iff_count.mpr
      intro a
      simp only [List.count_append]
      omega
    exact (List.nodup_append.mp (h1.nodup_iff.mp J.nd)).2.1
  exact ⟨G, F, F1 ++ B, J.s0, J.sub, J.slots, r1.append rs, nd, fun a z => J.fr a (sb a z), fun a z => J.own a (sb a z), J.gn, J.keep, J.kept⟩
/-- a held thing amid others goes back to its slot -/
theorem SI.midBack {d : D} {v : V} {R : List D} {Rv : List V} (I : SI K b σ H ε (T ++ d :: R) (Tv ++ v :: Rv)) (hl : T.length = Tv.length) {i : Nat} (hs : σ[i]? = some (some v)) : SI K b σ H (ε.set i (some d)) (T ++ R) (Tv ++ Rv) := by
  obtain ⟨G, F, Ft, J⟩ := I
  obtain ⟨F1, F2, rfl, r1, r2⟩ := J.temps.split2 hl
  obtain ⟨v', vs', A, B, e, rfl, rd, rs⟩ := r2
  obtain ⟨rfl, rfl⟩ := List.cons.inj e
  have hi : i < ε.length := by
    rw [J.slots.len]
    exact (List.getElem?_eq_some_iff.mp hs).1
  obtain ⟨ov, C, E, L, hs', rfl, ro, back⟩ := J.slots.focus (i := i) (List.getElem?_eq_getElem hi)
  have s2 := back G H (some d) (some v) A Sub.refl (fun _ _ => rfl) ⟨v, rfl, rd⟩
  rw [setSelf hs] at s2
  have sb : ∀ a, a ∈ C ++ A ++ L ++ (F1 ++ B) → a ∈ C ++ E ++ L ++ (F1 ++ (A ++ B)) := fun a z => by
    simp only [List.mem_append] at z ⊢
    rcases z with ((z | z) | z) | z | z
    · exact .inl (.inl (.inl z))
    · exact .inr (.inr (.inl z))
    · exact .inl (.inr z)
    · exact .inr (.inl z)
    · exact .inr (.inr (.inr z))
  have nd : (C ++ A ++ L ++ (F1 ++ B)).Nodup := by
    have h1 : (C ++ E ++ L ++ (F1 ++ (A ++ B))).Perm (E ++ (C ++ A ++ L ++ (F1 ++ B))) := by
      apply List.perm_iff_count.mpr
      intro a
      simp only [List.count_append]
      omega
    exact (List.nodup_append.mp (h1.nodup_iff.mp J.nd)).2.1
  exact ⟨G, _, F1 ++ B, J.s0, J.sub, s2, r1.append rs, nd, fun a z => J.fr a (sb a z), fun a z => J.own a (sb a z), J.gn, J.keep, J.kept⟩
end
/-- arguments that were moved out of slots go back, the others are let go -/
def restore : List (Option Nat) → List D → Ep → Ep
  | some i :: rs, d :: ds, ε => restore rs ds (ε.set i (some d))
  | none :: rs, _ :: ds, ε => restore rs ds ε
  | _, _, ε => ε
def Held (σ : L2.St) : List (Option Nat) → List V → Prop
  | [], [] => True
  | some i :: rs, v :: vs => σ[i]? = some (some v) ∧ Held σ rs vs
  | none :: rs, _ :: vs => Held σ rs vs
  | _, _ => False
theorem Held.len {σ : L2.St} : ∀ {rs : List (Option Nat)} {vs : List V}, Held σ rs vs → rs.length = vs.length
  | [], [], _ => rfl
  | some i :: rs, v :: vs, h => by rw [List.length_cons, List.length_cons, Held.len h.2]
  | none :: rs, v :: vs, h => by rw [List.length_cons, List.length_cons, Held.len (rs := rs) (vs := vs) h]
  | [], _ :: _, h => h.elim
  | some _ :: _, [], h => h.elim
  | none :: _, [], h => h.elim
theorem Held.append {σ : L2.St} : ∀ {rs rs' : List (Option Nat)} {vs vs' : List V}, Held σ rs vs → Held σ rs' vs' → Held σ (rs ++ rs') (vs ++ vs')
  | [], _, [], _, _, k => k
  | some i :: rs, _, v :: vs, _, h, k => ⟨h.1, Held.append h.2 k⟩
  | none :: rs, _, v :: vs, _, h, k => Held.append (rs := rs) (vs := vs) h k
  | [], _, _ :: _, _, h, _ => h.elim
  | some _ :: _, _, [], _, h, _ => h.elim
  | none :: _, _, [], _, h, _ => h.elim
theorem SI.restore {K : PySem.W.Frag} {b : Bs} {σ : L2.St} {H : Hp} {T : List D} {Tv : List V} {R : List D} {Rv : List V} (hl : T.length = Tv.length) :
    ∀ {rs : List (Option Nat)} {ds : List D} {vs : List V} {ε : Ep}, Held σ rs vs → ds.length = vs.length → SI K b σ H ε (T ++ (ds ++ R)) (Tv ++ (vs ++ Rv)) → SI K b σ H (VL.restore rs ds ε) (T ++ R) (Tv ++ Rv)
  | [], [], [], ε, _, _, I => I
  | some i :: rs, d :: ds, v :: vs, ε, h, e, I => SI.restore hl (rs := rs) h.2 (Nat.succ.inj e) (SI.midBack I hl h.1)
  | none :: rs, d :: ds, v :: vs, ε, h, e, I => SI.restore hl (rs := rs) (vs := vs) h (Nat.succ.inj e) (SI.midDrop I hl)
  | [], _ :: _, [], _, _, e, _ => by cases e
  | [], _, _ :: _, _, h, _, _ => h.elim
  | some _ :: _, _, [], _, h, _, _ => h.elim
  | none :: _, _, [], _, h, _, _ => h.elim
  | some _ :: _, [], _ :: _, _, _, e, _ => by cases e
  | none :: _, [], _ :: _, _, _, e, _ => by cases e
/-- what is wished of an exception: its class, its row, the slots -/
abbrev WV := Value → D → Ep → Prop
abbrev VTE := WV → Ep → (D → Ep → Prop) → Prop
abbrev VTT := WV → Ep → (Bool → Ep → Prop) → Prop
abbrev VTA := WV → Ep → (List D → Ep → Prop) → Prop
structure VEnds where
  nx : Ep → Prop
  rt : D → Ep → Prop
  bk : Ep → Prop := fun _ => False
  ct : Ep → Prop := fun _ => False
  rx : WV
abbrev VTS := VEnds → Ep → Prop
/-- an exception of ours: it has its dict, with the field row -/
def XL (K : PySem.W.Frag) (b : Bs) (T : List D) (Tv : List V) (W : WX) (N : WV) : Prop := ∀ cls (dd : Addr) σ H ε row v, SI K b σ H ε (T ++ [row]) (Tv ++ [v]) → H dd = some (.xd [("row", v)]) → (dd ∈ b.F0 ∨ b.H0 dd = none) → N cls row ε → W (clsV K cls) (some dd) σ H
theorem XL.more {K : PySem.W.Frag} {b : Bs} {T R : List D} {Tv Rv : List V} {W : WX} {N : WV} (hl : T.length = Tv.length) (hr : R.length = Rv.length) (x : XL K b T Tv W N) : XL K b (T ++ R) (Tv ++ Rv) W N := fun cls dd σ H ε row v I e fr n => by
  refine x cls dd σ H ε row v ?_ e fr n
  have h : Held σ (R.map fun _ => none) Rv := by
    clear I x
    induction R generalizing Rv with
    | nil =>
      cases Rv with
      | nil => exact trivial
      | cons _ _ => cases hr
    | cons r R ih =>
      cases Rv with
      | nil => cases hr
      | cons v Rv => exact ih (Nat.succ.inj hr)
  rw [List.append_assoc, List.append_assoc] at I
  have := SI.restore hl h hr I
  have z : VL.restore (R.map fun _ => none) R ε = ε := by
    clear this h I x hr
    induction R with
    | nil => rfl
    | cons r R ih => exact ih
  rw [z] at this
  exact this
/-- the context of a body, and which of its slots are kept: parameters that the body never stores into -/
structure Cv extends Cx where
  κ : List Bool
instance : Coe Cv Cx := ⟨Cv.toCx⟩
/-- a ground that keeps no other slot -/
abbrev Bx (X : Cv) := { b : Bs // ∀ (i : Nat) u, b.kv[i]? = some (some u) → X.κ[i]? = some true }
structure VE (X : Cv) (e : Expr) (t : VTE) : Prop where
  ex : ∃ t' : WX → TE, (∀ W, Takes X.toCx W → PE X.toCx e (t' W)) ∧ ∀ (b : Bx X) σ H ε T Tv W N Q Q', SI X.K b.1 σ H ε T Tv → t N ε Q →
    (∀ d v ε' H', SI X.K b.1 σ H' ε' (T ++ [d]) (Tv ++ [v]) → Q d ε' → Q' v H') → XL X.K b.1 T Tv W N → t' W σ H Q'
structure VT (X : Cv) (e : Expr) (t : VTT) : Prop where
  ex : ∃ t' : WX → TT, (∀ W, Takes X.toCx W → PT X.toCx e (t' W)) ∧ ∀ (b : Bx X) σ H ε T Tv W N Q Q', SI X.K b.1 σ H ε T Tv → t N ε Q →
    (∀ c ε' H', SI X.K b.1 σ H' ε' T Tv → Q c ε' → Q' c H') → XL X.K b.1 T Tv W N → t' W σ H Q'
/-- a test in a chain of and, or -/
structure VW (X : Cv) (e : Expr) (t : VTT) : Prop where
  ex : ∃ t' : WX → TT, (∀ W, Takes X.toCx W → PW X.toCx e (t' W)) ∧ ∀ (b : Bx X) σ H ε T Tv W N Q Q', SI X.K b.1 σ H ε T Tv → t N ε Q →
    (∀ c ε' H', SI X.K b.1 σ H' ε' T Tv → Q c ε' → Q' c H') → XL X.K b.1 T Tv W N → t' W σ H Q'
/-- one argument; r: the slot from which it is moved -/
structure VG (X : Cv) (e : Expr) (r : Option Nat) (t : VTE) : Prop where
  ex : ∃ t' : WX → TE, (∀ W, Takes X.toCx W → PE X.toCx e (t' W)) ∧ ∀ (b : Bx X) σ H ε T Tv W N Q Q', SI X.K b.1 σ H ε T Tv → t N ε Q →
    (∀ d v ε' H', SI X.K b.1 σ H' ε' (T ++ [d]) (Tv ++ [v]) → Held σ [r] [v] → Q d ε' → Q' v H') → XL X.K b.1 T Tv W N → t' W σ H Q'
structure VA (X : Cv) (es : List Expr) (rs : List (Option Nat)) (t : VTA) : Prop where
  ex : ∃ t' : WX → TA, (∀ W, Takes X.toCx W → PA X.toCx es (t' W)) ∧ ∀ (b : Bx X) σ H ε T Tv W N Q Q', SI X.K b.1 σ H ε T Tv → t N ε Q →
    (∀ ds vs ε' H', SI X.K b.1 σ H' ε' (T ++ ds) (Tv ++ vs) → ds.length = vs.length → Held σ rs vs → Q ds ε' → Q' vs H') → XL X.K b.1 T Tv W N → t' W σ H Q'
/-- the ends of a statement -/
structure EL (K : PySem.W.Frag) (b : Bs) (T : List D) (Tv : List V) (N : VEnds) (E : Ends) : Prop where
  nx : ∀ σ H ε, SI K b σ H ε T Tv → N.nx ε → E.nx σ H
  rt : ∀ σ H ε d v, SI K b σ H ε (T ++ [d]) (Tv ++ [v]) → N.rt d ε → E.rt v H
  bk : ∀ σ H ε, SI K b σ H ε T Tv → N.bk ε → E.bk σ H
  ct : ∀ σ H ε, SI K b σ H ε T Tv → N.ct ε → E.ct σ H
structure VS (X : Cv) (st : Stmt) (t : VTS) : Prop where
  ex : ∃ t' : WX → TS, (∀ W, Takes X.toCx W → PS X.toCx st (t' W)) ∧ ∀ (b : Bx X) σ H ε T Tv W N E, SI X.K b.1 σ H ε T Tv → t N ε → EL X.K b.1 T Tv N E → XL X.K b.1 T Tv W N.rx → t' W E σ H
structure VSs (X : Cv) (st : List Stmt) (t : VTS) : Prop where
  ex : ∃ t' : WX → TS, (∀ W, Takes X.toCx W → PSs X.toCx st (t' W)) ∧ ∀ (b : Bx X) σ H ε T Tv W N E, SI X.K b.1 σ H ε T Tv → t N ε → EL X.K b.1 T Tv N E → XL X.K b.1 T Tv W N.rx → t' W E σ H
section
variable {X : Cv}
def vVar (i : Nat) : VTE := fun _ ε Q => ∃ d, ε[i]? = some (some d) ∧ isFz d = true ∧ Q d ε
def vMov (i : Nat) : VTE := fun _ ε Q => ∃ d, ε[i]? = some (some d) ∧ Q d (ε.set i none)
def vFrz (i : Nat) : VTE := fun _ ε Q => ∃ d, ε[i]? = some (some d) ∧ Q (frz d) (ε.set i (some (frz d)))
def vC (d : D) : VTE := fun _ ε Q => Q d ε
theorem ve_var {i : Nat} {x : Str} {pos : Pos} (hN : X.N[i]? = some x) (hv : Vis X.env.scope x) (hd : (x == ("__debug__" : Str)) = false := by decide) (hcd : (x == ("__classdict__" : Str)) = false := by decide) : VE X (.Name x pos) (vVar i) := by
  refine ⟨fun _ => tVar i, fun _ _ => pe_var hN hv hd hcd, fun b σ H ε T Tv W N Q Q' I h k _ => ?_⟩
  obtain ⟨d, e, z, q⟩ := h
  obtain ⟨v, hs, J⟩ := I.var e z
  exact ⟨v, hs, k d v ε H J q⟩
theorem ve_mov {i : Nat} {x : Str} {pos : Pos} (hN : X.N[i]? = some x) (hv : Vis X.env.scope x) (hd : (x == ("__debug__" : Str)) = false := by decide) (hcd : (x == ("__classdict__" : Str)) = false := by decide) : VE X (.Name x pos) (vMov i) := by
  refine ⟨fun _ => tVar i, fun _ _ => pe_var hN hv hd hcd, fun b σ H ε T Tv W N Q Q' I h k _ => ?_⟩
  obtain ⟨d, e, q⟩ := h
  obtain ⟨v, hs, J⟩ := I.mov e
  exact ⟨v, hs, k d v _ H J q⟩
theorem ve_frz {i : Nat} {x : Str} {pos : Pos} (hN : X.N[i]? = some x) (hv : Vis X.env.scope x) (hd : (x == ("__debug__" : Str)) = false := by decide) (hcd : (x == ("__classdict__" : Str)) = false := by decide) : VE X (.Name x pos) (vFrz i) := by
  refine ⟨fun _ => tVar i, fun _ _ => pe_var hN hv hd hcd, fun b σ H ε T Tv W N Q Q' I h k _ => ?_⟩
  obtain ⟨d, e, q⟩ := h
  obtain ⟨v, hs, J⟩ := I.mov e
  have J2 := (J.freeze I.lenT).back I.lenT hs
  have e2 : (ε.set i none).set i (some (frz d)) = ε.set i (some (frz d)) := by simp
  rw [e2] at J2
  have hi := (List.getElem?_eq_some_iff.mp e).1
  obtain ⟨v', hs', J3⟩ := J2.var (i := i) (d := frz d) (by simp [hi]) (isFz_frz d)
  rw [hs] at hs'
  cases hs'
  exact ⟨v, hs, k (frz d) v _ H J3 q⟩
theorem vc_of {e : Expr} {v : V} {d : D} (h : PE X.toCx e (tC v)) (r : ∀ G H, Rp X.K G H d v []) : VE X e (vC d) :=
  ⟨fun _ => tC v, fun _ _ => h, fun b σ H ε T Tv W N Q Q' I q k _ => k d v ε H (I.push fun G => r G H) q⟩
theorem ve_int {i j pos} : VE X (.Constant (.int i) j pos) (vC (.int i)) := vc_of pe_int fun _ _ => ⟨rfl, rfl⟩
theorem ve_bl {b j pos} : VE X (.Constant (.bool b) j pos) (vC (.bl b)) := vc_of pe_bl fun _ _ => ⟨rfl, rfl⟩
theorem ve_non {j pos} : VE X (.Constant .none j pos) (vC .non) := vc_of pe_non fun _ _ => ⟨rfl, rfl⟩
theorem ve_str {s : Cs} {x : Str} {j pos} (h : x.cps.toList = s) : VE X (.Constant (.str x) j pos) (vC (.str s)) := vc_of pe_str fun _ _ => ⟨by rw [← h, toS_cps], rfl⟩
theorem vg_val {e : Expr} {t : VTE} (h : VE X e t) : VG X e none t := by
  obtain ⟨t', h1, h2⟩ := h.ex
  exact ⟨t', h1, fun b σ H ε T Tv W N Q Q' I q k x => h2 b σ H ε T Tv W N Q Q' I q (fun d v ε' H' J z => k d v ε' H' J trivial z) x⟩
def vaNil : VTA := fun _ ε Q => Q [] ε
def vaCons (t : VTE) (u : VTA) : VTA := fun N ε Q => t N ε fun d ε1 => u N ε1 fun ds ε2 => Q (d :: ds) ε2
theorem va_nil : VA X [] [] vaNil := ⟨fun _ => tNil, fun _ _ => pa_nil, fun b σ H ε T Tv W N Q Q' I h k _ => k [] [] ε H (by simpa using I) rfl trivial h⟩
theorem va_cons {e : Expr} {es : List Expr} {r : Option Nat} {rs : List (Option Nat)} {t : VTE} {u : VTA} (h : VG X e r t) (k : VA X es rs u) (hs : starEach (e :: es) X.env = (false, eval e X.env) :: starEach es X.env := by rfl) : VA X (e :: es) (r :: rs) (vaCons t u) := by
  obtain ⟨t', h1, h2⟩ := h.ex
  obtain ⟨u', k1, k2⟩ := k.ex
  refine ⟨fun W => tCons (t' W) (u' W), fun W tk => pa_cons (h1 W tk) (k1 W tk) hs, fun b σ H ε T Tv W N Q Q' I q z x => ?_⟩
  refine h2 b σ H ε T Tv W N _ _ I q (fun d v ε1 H1 J hd q1 => ?_) x
  refine k2 b σ H1 ε1 (T ++ [d]) (Tv ++ [v]) W N _ _ J q1 (fun ds vs ε2 H2 J2 l hds q2 => ?_) (x.more I.lenT rfl)
  refine z (d :: ds) (v :: vs) ε2 H2 (by simpa only [List.append_assoc, List.cons_append, List.nil_append] using J2) (by simp [l]) ?_ q2
  exact Held.append (rs := [r]) (vs := [v]) hd hds
/-- r of values is op of trees: what is held stays, the answer comes on top -/
def OpN (K : PySem.W.Frag) (r : List V → Hp → VK → Prop) (op : List D → (D → Prop) → Prop) : Prop :=
  ∀ (b : Bs) (σ : L2.St) (H : Hp) (ε : Ep) (T : List D) (Tv : List V) (ds : List D) (vs : List V) (Q : D → Prop) (Q' : VK), T.length = Tv.length → ds.length = vs.length → SI K b σ H ε (T ++ ds) (Tv ++ vs) → op ds Q →
    (∀ d v H', Sub H H' → SI K b σ H' ε (T ++ (ds ++ [d])) (Tv ++ (vs ++ [v])) → Q d → Q' v H') → r vs H Q'
/-- an answer out of values alone -/
theorem OpN.pure {K : PySem.W.Frag} {r : List V → Hp → VK → Prop} {op : List D → (D → Prop) → Prop}
    (h : ∀ (G H : Hp) (ds : List D) (vs : List V) (F : List Addr) (Q : D → Prop) (Q' : VK), Sub G H → RpL K G H ds vs F → op ds Q → (∀ d v, (∀ G' H', Sub G G' → Rp K G' H' d v []) → Q d → Q' v H) → r vs H Q') : OpN K r op :=
  fun b σ H ε T Tv ds vs Q Q' hl hd I q k => by
    obtain ⟨G, F, Ft, J⟩ := I
    obtain ⟨F1, F2, rfl, r1, r2⟩ := J.temps.split2 hl
    refine h G H ds vs F2 Q Q' J.sub r2 q fun d v rd z => k d v H Sub.refl ⟨G, F, F1 ++ F2, ?_⟩ z
    have := J.push (d := d) (v := v) (rd G H Sub.refl)
    simpa only [List.append_assoc] using this
def vOp (op : List D → (D → Prop) → Prop) (rs : List (Option Nat)) (t : VTA) : VTE := fun N ε Q => t N ε fun ds ε1 => op ds fun d => Q d (restore rs ds ε1)
def r2N (r : R2) : List V → Hp → VK → Prop := fun vs H Q => ∃ v w, vs = [v, w] ∧ r v w H Q
def r1N (r : V → Hp → VK → Prop) : List V → Hp → VK → Prop := fun vs H Q => ∃ v, vs = [v] ∧ r v H Q
/-- behind an operation: the arguments go back or are let go -/
theorem OpN.run {K : PySem.W.Frag} {r : List V → Hp → VK → Prop} {op : List D → (D → Prop) → Prop} (h : OpN K r op) {b : Bs} {σ : L2.St} {H : Hp} {ε : Ep} {T : List D} {Tv : List V} {ds : List D} {vs : List V} {rs : List (Option Nat)} {Q : D → Ep → Prop} {Q' : VK}
    (hl : T.length = Tv.length) (hd : ds.length = vs.length) (I : SI K b σ H ε (T ++ ds) (Tv ++ vs)) (hh : Held σ rs vs) (q : op ds fun d => Q d (restore rs ds ε)) (k : ∀ d v ε' H', SI K b σ H' ε' (T ++ [d]) (Tv ++ [v]) → Q d ε' → Q' v H') : r vs H Q' :=
  h b σ H ε T Tv ds vs _ Q' hl hd I q fun d v H' _ J z => k d v _ H' (SI.restore hl hh hd J) z
def va2 (ta tb : VTE) : VTA := vaCons ta (vaCons tb vaNil)
def va1 (ta : VTE) : VTA := vaCons ta vaNil
theorem two_run {K : PySem.W.Frag} {r : R2} {op : List D → (D → Prop) → Prop} (h : OpN K (r2N r) op) {b : Bs} {σ : L2.St} {H : Hp} {ε : Ep} {T : List D} {Tv : List V} {x y : D} {v w : V} {ra rb : Option Nat} {Q : D → Ep → Prop} {Q' : VK}
    (hl : T.length = Tv.length) (I : SI K b σ H ε (T ++ [x, y]) (Tv ++ [v, w])) (h1 : Held σ [ra] [v]) (h2 : Held σ [rb] [w]) (q : op [x, y] fun d => Q d (restore [ra, rb] [x, y] ε)) (k : ∀ d v ε' H', SI K b σ H' ε' (T ++ [d]) (Tv ++ [v]) → Q d ε' → Q' v H') : r v w H Q' := by
  obtain ⟨v', w', e, z⟩ := h.run hl rfl I (Held.append (rs := [ra]) (vs := [v]) h1 h2) q k
  obtain ⟨rfl, e2⟩ := List.cons.inj e
  obtain ⟨rfl, _⟩ := List.cons.inj e2
  exact z
theorem one_run {K : PySem.W.Frag} {r : V → Hp → VK → Prop} {op : List D → (D → Prop) → Prop} (h : OpN K (r1N r) op) {b : Bs} {σ : L2.St} {H : Hp} {ε : Ep} {T : List D} {Tv : List V} {x : D} {v : V} {ra : Option Nat} {Q : D → Ep → Prop} {Q' : VK}
    (hl : T.length = Tv.length) (I : SI K b σ H ε (T ++ [x]) (Tv ++ [v])) (h1 : Held σ [ra] [v]) (q : op [x] fun d => Q d (restore [ra] [x] ε)) (k : ∀ d v ε' H', SI K b σ H' ε' (T ++ [d]) (Tv ++ [v]) → Q d ε' → Q' v H') : r v H Q' := by
  obtain ⟨v', e, z⟩ := h.run hl rfl I h1 q k
  obtain ⟨rfl, _⟩ := List.cons.inj e
  exact z
/-- two operands in a row -/
theorem two_args {e1 e2 : Expr} {ra rb : Option Nat} {ta tb : VTE} (ha : VG X e1 ra ta) (hb : VG X e2 rb tb) : ∃ ta' tb' : WX → TE, (∀ W, Takes X.toCx W → PE X.toCx e1 (ta' W)) ∧ (∀ W, Takes X.toCx W → PE X.toCx e2 (tb' W)) ∧
    ∀ (b : Bx X) σ H ε T Tv W N (Q : D → D → Ep → Prop) (Q' : V → V → Hp → Prop), SI X.K b.1 σ H ε T Tv → (ta N ε fun x ε1 => tb N ε1 fun y ε2 => Q x y ε2) →
      (∀ x y v w ε' H', SI X.K b.1 σ H' ε' (T ++ [x, y]) (Tv ++ [v, w]) → Held σ [ra] [v] → Held σ [rb] [w] → Q x y ε' → Q' v w H') → XL X.K b.1 T Tv W N → ta' W σ H fun v H1 => tb' W σ H1 fun w H2 => Q' v w H2 := by
  obtain ⟨ta', a1, a2⟩ := ha.ex
  obtain ⟨tb', b1, b2⟩ := hb.ex
  refine ⟨ta', tb', a1, b1, fun b σ H ε T Tv W N Q Q' I q k x => ?_⟩
  refine a2 b σ H ε T Tv W N _ _ I q (fun d v ε1 H1 J hd q1 => ?_) x
  refine b2 b σ H1 ε1 (T ++ [d]) (Tv ++ [v]) W N _ _ J q1 (fun d2 w ε2 H2 J2 h2 q2 => ?_) (x.more I.lenT rfl)
  exact k d d2 v w ε2 H2 (by simpa only [List.append_assoc, List.cons_append, List.nil_append] using J2) hd h2 q2
theorem ve_bin {e1 e2 : Expr} {o : Operator} {ra rb : Option Nat} {ta tb : VTE} {r : R2} {op : List D → (D → Prop) → Prop} {pos : Pos} (ho : OpR X.toCx (binaryOp o) r) (hp : OpN X.K (r2N r) op) (ha : VG X e1 ra ta) (hb : VG X e2 rb tb) :
    VE X (.BinOp e1 o e2 pos) (vOp op [ra, rb] (va2 ta tb)) := by
  obtain ⟨ta', tb', h1, h2, h3⟩ := two_args ha hb
  refine ⟨fun W => tOp r (ta' W) (tb' W), fun W tk => pe_op ho (h1 W tk) (h2 W tk), fun b σ H ε T Tv W N Q Q' I q k x => ?_⟩
  exact h3 b σ H ε T Tv W N _ _ I q (fun x y v w ε' H' J hv hw z => two_run hp I.lenT J hv hw z k) x
theorem ve_cmp {e1 e2 : Expr} {o : CmpOp} {ra rb : Option Nat} {ta tb : VTE} {r : R2} {op : List D → (D → Prop) → Prop} {pos : Pos} (ho : OpR X.toCx (compareOp o) r) (hp : OpN X.K (r2N r) op) (ha : VG X e1 ra ta) (hb : VG X e2 rb tb) (hm : behindInMarks o e2 = false) :
    VE X (.Compare e1 [o] [e2] pos) (vOp op [ra, rb] (va2 ta tb)) := by
  obtain ⟨ta', tb', h1, h2, h3⟩ := two_args ha hb
  refine ⟨fun W => tOp r (ta' W) (tb' W), fun W tk => pe_cmpR ho (h1 W tk) (h2 W tk) hm, fun b σ H ε T Tv W N Q Q' I q k x => ?_⟩
  exact h3 b σ H ε T Tv W N _ _ I q (fun x y v w ε' H' J hv hw z => two_run hp I.lenT J hv hw z k) x
theorem ve_un {e1 : Expr} {o : UnaryOp} {ra : Option Nat} {ta : VTE} {r : V → Hp → VK → Prop} {op : List D → (D → Prop) → Prop} {pos : Pos} (ho : UnR X.toCx (unaryOp o) r) (hp : OpN X.K (r1N r) op) (ha : VG X e1 ra ta) : VE X (.UnaryOp o e1 pos) (vOp op [ra] (va1 ta)) := by
  obtain ⟨ta', a1, a2⟩ := ha.ex
  refine ⟨fun W => tUn r (ta' W), fun W tk => pe_un ho (a1 W tk), fun b σ H ε T Tv W N Q Q' I q k x => ?_⟩
  exact a2 b σ H ε T Tv W N _ _ I q (fun d v ε1 H1 J hd z => one_run hp I.lenT J hd z k) x
/-- a built-in function called by its name -/
theorem ve_callB {x : Str} {id : String} {p pos : Pos} {e : Expr} {es : List Expr} {rs : List (Option Nat)} {t : VTA} {r : List V → Hp → VK → Prop} {op : List D → (D → Prop) → Prop} (hc : CallR X.toCx (.builtin id) r) (hp : OpN X.K r op) (hg : Gl X.toCx x) (hm : X.mg x = none) (hv : bootBuiltins x = some (.builtin id)) (ha : VA X (e :: es) rs t)
    (hn : x ≠ "__name__" := by decide) (hdb : (x == ("__debug__" : Str)) = false := by decide) (he : starEach (e :: es) X.env = (false, eval e X.env) :: starEach es X.env := by rfl) (hpl : (backTo pos (starEach es X.env)).any (·.1) = false := by rfl) :
    VE X (.Call (.Name x p) (e :: es) [] pos) (vOp op rs t) := by
  obtain ⟨t', a1, a2⟩ := ha.ex
  refine ⟨fun W => tCB r (t' W), fun W tk => pe_callB hc hg hm hv (a1 W tk) hn hdb he hpl, fun b σ H ε T Tv W N Q Q' I q k x => ?_⟩
  exact a2 b σ H ε T Tv W N _ _ I q (fun ds vs ε1 H1 J l hd z => hp.run I.lenT l J hd z k) x
theorem ve_callTy {x : Str} {ty : String} {p pos : Pos} {e : Expr} {es : List Expr} {rs : List (Option Nat)} {t : VTA} {r : List V → Hp → VK → Prop} {op : List D → (D → Prop) → Prop} (hc : CallR X.toCx (.type ty) r) (hp : OpN X.K r op) (hg : Gl X.toCx x) (hm : X.mg x = none) (hv : bootBuiltins x = some (.type ty)) (ha : VA X (e :: es) rs t)
    (hn : x ≠ "__name__" := by decide) (hdb : (x == ("__debug__" : Str)) = false := by decide) (he : starEach (e :: es) X.env = (false, eval e X.env) :: starEach es X.env := by rfl) (hpl : (backTo pos (starEach es X.env)).any (·.1) = false := by rfl) :
    VE X (.Call (.Name x p) (e :: es) [] pos) (vOp op rs t) := by
  obtain ⟨t', a1, a2⟩ := ha.ex
  refine ⟨fun W => tCB r (t' W), fun W tk => pe_callTy hc hg hm hv (a1 W tk) hn hdb he hpl, fun b σ H ε T Tv W N Q Q' I q k x => ?_⟩
  exact a2 b σ H ε T Tv W N _ _ I q (fun ds vs ε1 H1 J l hd z => hp.run I.lenT l J hd z k) x
end
end VL
namespace VL
open PySem PySem.Spec PyProof.Rows L2 VL
section
variable {K : PySem.W.Frag} {b : Bs} {σ : L2.St} {H H' : Hp} {ε : Ep} {T : List D} {Tv : List V}
theorem SI.last {d : D} {v : V} (I : SI K b σ H ε (T ++ [d]) (Tv ++ [v])) (hl : T.length = Tv.length) : ∃ G F, Sub G H ∧ Rp K G H d v F := by
  obtain ⟨G, F, Ft, J⟩ := I
  obtain ⟨F1, F2, rfl, r1, r2⟩ := J.temps.split2 hl
  exact ⟨G, F2, J.sub, RpL.one.mp r2⟩
theorem SI.pop {d : D} {v : V} (I : SI K b σ H ε (T ++ [d]) (Tv ++ [v])) (hl : T.length = Tv.length) : SI K b σ H ε T Tv := I.drop hl
end
section
variable {X : Cv}
def vB (t : VTE) : VTT := fun N ε Q => t N ε fun d ε1 => ∃ c, d = .bl c ∧ Q c ε1
theorem vt_val {e : Expr} {t : VTE} (h : VE X e t) (he : ∀ whole, isTrue e X.env whole = (do let v ← whole; standAt e.pos; holding [v] (truthy v)) := by intro _; rfl) : VT X e (vB t) := by
  obtain ⟨t', h1, h2⟩ := h.ex
  refine ⟨fun W => tB (t' W), fun W tk => pt_val (h1 W tk) he, fun b σ H ε T Tv W N Q Q' I q k x => ?_⟩
  refine h2 b σ H ε T Tv W N _ _ I q (fun d v ε1 H1 J z => ?_) x
  obtain ⟨c, rfl, z⟩ := z
  obtain ⟨G, F, _, rv, _⟩ := J.last I.lenT
  exact ⟨c, rv, k c ε1 H1 (J.pop I.lenT) z⟩
theorem vt_cmp {e1 e2 : Expr} {o : CmpOp} {ra rb : Option Nat} {ta tb : VTE} {r : R2} {op : List D → (D → Prop) → Prop} {pos : Pos} (ho : OpR X.toCx (compareOp o) r) (hp : OpN X.K (r2N r) op) (ha : VG X e1 ra ta) (hb : VG X e2 rb tb) (hm : behindInMarks o e2 = false) :
    VT X (.Compare e1 [o] [e2] pos) (vB (vOp op [ra, rb] (va2 ta tb))) := by
  obtain ⟨ta', tb', h1, h2, h3⟩ := two_args ha hb
  refine ⟨fun W => tTest (tOp r (ta' W) (tb' W)), fun W tk => pt_cmpR ho (h1 W tk) (h2 W tk) hm, fun b σ H ε T Tv W N Q Q' I q k x => ?_⟩
  refine h3 b σ H ε T Tv W N _ _ I q (fun x y v w ε' H' J hv hw z => two_run (Q := fun d ε1 => ∃ c, d = .bl c ∧ Q c ε1) hp I.lenT J hv hw z fun d u ε1 H1 J1 z1 => ?_) x
  obtain ⟨c, rfl, z1⟩ := z1
  obtain ⟨G, F, _, rv, _⟩ := J1.last I.lenT
  exact ⟨c, rv, k c ε1 H1 (J1.pop I.lenT) z1⟩
def vAnd (t u : VTT) : VTT := fun N ε Q => t N ε fun c ε1 => if c = true then u N ε1 Q else Q false ε1
def vOr (t u : VTT) : VTT := fun N ε Q => t N ε fun c ε1 => if c = true then Q true ε1 else u N ε1 Q
def vNot (t : VTT) : VTT := fun N ε Q => t N ε fun c ε1 => Q (!c) ε1
theorem vw_and1 {a : Expr} {t : VTT} {pos : Pos} (h : VT X a t) : VW X (.BoolOp .And [a] pos) t := let ⟨t', h1, h2⟩ := h.ex; ⟨t', fun W tk => pw_and1 (h1 W tk), h2⟩
theorem vw_or1 {a : Expr} {t : VTT} {pos : Pos} (h : VT X a t) : VW X (.BoolOp .Or [a] pos) t := let ⟨t', h1, h2⟩ := h.ex; ⟨t', fun W tk => pw_or1 (h1 W tk), h2⟩
theorem vw_and {a c : Expr} {rest : List Expr} {t u : VTT} {pos : Pos} (h : VT X a t) (g : VW X (.BoolOp .And (c :: rest) pos) u) : VW X (.BoolOp .And (a :: c :: rest) pos) (vAnd t u) := by
  obtain ⟨t', h1, h2⟩ := h.ex
  obtain ⟨u', g1, g2⟩ := g.ex
  refine ⟨fun W => tAnd (t' W) (u' W), fun W tk => pw_and (h1 W tk) (g1 W tk), fun b σ H ε T Tv W N Q Q' I q k x => ?_⟩
  refine h2 b σ H ε T Tv W N _ _ I q (fun c ε1 H1 J z => ?_) x
  cases c with
  | true => exact g2 b σ H1 ε1 T Tv W N _ _ J z k x
  | false => exact k false ε1 H1 J z
theorem vw_or {a c : Expr} {rest : List Expr} {t u : VTT} {pos : Pos} (h : VT X a t) (g : VW X (.BoolOp .Or (c :: rest) pos) u) : VW X (.BoolOp .Or (a :: c :: rest) pos) (vOr t u) := by
  obtain ⟨t', h1, h2⟩ := h.ex
  obtain ⟨u', g1, g2⟩ := g.ex
  refine ⟨fun W => tOr (t' W) (u' W), fun W tk => pw_or (h1 W tk) (g1 W tk), fun b σ H ε T Tv W N Q Q' I q k x => ?_⟩
  refine h2 b σ H ε T Tv W N _ _ I q (fun c ε1 H1 J z => ?_) x
  cases c with
  | true => exact k true ε1 H1 J z
  | false => exact g2 b σ H1 ε1 T Tv W N _ _ J z k x
theorem vt_w {e : Expr} {t : VTT} (h : VW X e t) : VT X e t := let ⟨t', h1, h2⟩ := h.ex; ⟨t', fun W tk => (h1 W tk).pt, h2⟩
theorem vt_not {a : Expr} {t : VTT} {pos : Pos} (h : VT X a t) : VT X (.UnaryOp .Not a pos) (vNot t) := by
  obtain ⟨t', h1, h2⟩ := h.ex
  refine ⟨fun W => tNot (t' W), fun W tk => pt_not (h1 W tk), fun b σ H ε T Tv W N Q Q' I q k x => ?_⟩
  exact h2 b σ H ε T Tv W N _ _ I q (fun c ε1 H1 J z => k (!c) ε1 H1 J z) x
def vAndV (t u : VTE) : VTE := fun N ε Q => t N ε fun d ε1 => ∃ c, d = .bl c ∧ if c = true then u N ε1 Q else Q (.bl false) ε1
def vOrV (t u : VTE) : VTE := fun N ε Q => t N ε fun d ε1 => ∃ c, d = .bl c ∧ if c = true then Q (.bl true) ε1 else u N ε1 Q
def vNotV (t : VTE) : VTE := fun N ε Q => t N ε fun d ε1 => ∃ c, d = .bl c ∧ Q (.bl (!c)) ε1
def vIf (c : VTT) (t u : VTE) : VTE := fun N ε Q => c N ε fun c ε1 => if c = true then t N ε1 Q else u N ε1 Q
theorem ve_one {a : Expr} {o : BoolOp} {t : VTE} {pos : Pos} (h : VE X a t) : VE X (.BoolOp o [a] pos) t := let ⟨t', h1, h2⟩ := h.ex; ⟨t', fun W tk => pe_one (h1 W tk), h2⟩
theorem ve_and {a c : Expr} {rest : List Expr} {t u : VTE} {pos : Pos} (h : VE X a t) (g : VE X (.BoolOp .And (c :: rest) pos) u) : VE X (.BoolOp .And (a :: c :: rest) pos) (vAndV t u) := by
  obtain ⟨t', h1, h2⟩ := h.ex
  obtain ⟨u', g1, g2⟩ := g.ex
  refine ⟨fun W => tAndV (t' W) (u' W), fun W tk => pe_and (h1 W tk) (g1 W tk), fun b σ H ε T Tv W N Q Q' I q k x => ?_⟩
  refine h2 b σ H ε T Tv W N _ _ I q (fun d v ε1 H1 J z => ?_) x
  obtain ⟨c, rfl, z⟩ := z
  obtain ⟨G, F, _, rv, _⟩ := J.last I.lenT
  refine ⟨c, rv, ?_⟩
  cases c with
  | true => exact g2 b σ H1 ε1 T Tv W N _ _ (J.pop I.lenT) z k x
  | false => exact k (.bl false) _ ε1 H1 ((J.pop I.lenT).push fun _ => ⟨rfl, rfl⟩) z
theorem ve_not {a : Expr} {t : VTE} {pos : Pos} (h : VE X a t) : VE X (.UnaryOp .Not a pos) (vNotV t) := by
  obtain ⟨t', h1, h2⟩ := h.ex
  refine ⟨fun W => tNotV (t' W), fun W tk => pe_not (h1 W tk), fun b σ H ε T Tv W N Q Q' I q k x => ?_⟩
  refine h2 b σ H ε T Tv W N _ _ I q (fun d v ε1 H1 J z => ?_) x
  obtain ⟨c, rfl, z⟩ := z
  obtain ⟨G, F, _, rv, _⟩ := J.last I.lenT
  exact ⟨c, rv, k (.bl (!c)) _ ε1 H1 ((J.pop I.lenT).push fun _ => ⟨rfl, rfl⟩) z⟩
def vTup (t : VTA) : VTE := fun N ε Q => t N ε fun ds ε1 => ds.length ≤ 1000 ∧ Q (.tup ds) ε1
def vLst (t : VTA) : VTE := fun N ε Q => t N ε fun ds ε1 => ds.length ≤ 1000 ∧ Q (.lst true ds) ε1
theorem k1000 {n : Nat} (h : n ≤ 1000) : n ≤ sizeLine := Nat.le_trans h (by decide)
theorem ve_tup {es : List Expr} {rs : List (Option Nat)} {t : VTA} {x1 : Nat} {pos : Pos} (h : VA X es rs t) : VE X (.Tuple es x1 pos) (vTup t) := by
  obtain ⟨t', h1, h2⟩ := h.ex
  refine ⟨fun W => tTup (t' W), fun W tk => pe_tup (h1 W tk), fun b σ H ε T Tv W N Q Q' I q k x => ?_⟩
  refine h2 b σ H ε T Tv W N _ _ I q (fun ds vs ε1 H1 J l _ z => ?_) x
  obtain ⟨z1, z⟩ := z
  exact ⟨k1000 (by rw [← l]; exact z1), fun p hp => k _ _ ε1 _ (J.tup I.lenT hp) z⟩
theorem ve_lst {es : List Expr} {rs : List (Option Nat)} {t : VTA} {pos : Pos} (h : VA X es rs t) : VE X (.List es pos) (vLst t) := by
  obtain ⟨t', h1, h2⟩ := h.ex
  refine ⟨fun W => tLst (t' W), fun W tk => pe_lst (h1 W tk), fun b σ H ε T Tv W N Q Q' I q k x => ?_⟩
  refine h2 b σ H ε T Tv W N _ _ I q (fun ds vs ε1 H1 J l _ z => ?_) x
  obtain ⟨z1, z⟩ := z
  exact ⟨k1000 (by rw [← l]; exact z1), fun p hp => k (.lst true ds) _ ε1 _ (J.laid I.lenT hp (.lst vs) fun G H' F e r => ⟨p, vs, F, rfl, e, rfl, r⟩) z⟩
/-- what an expression gives is let stand still -/
def vStill (t : VTE) : VTE := fun N ε Q => t N ε fun d ε1 => Q (frz d) ε1
theorem ve_still {e : Expr} {t : VTE} (h : VE X e t) : VE X e (vStill t) := by
  obtain ⟨t', h1, h2⟩ := h.ex
  refine ⟨t', h1, fun b σ H ε T Tv W N Q Q' I q k x => ?_⟩
  exact h2 b σ H ε T Tv W N _ _ I q (fun d v ε1 H1 J z => k (frz d) v ε1 H1 (J.freeze I.lenT) z) x
/-- κ: the slots of kept parameters, which nobody stores into: told by the number of them at the begin that are not stored -/
def vSkip : VTS := fun N ε => N.nx ε
def vSeq (t u : VTS) : VTS := fun N ε => t { N with nx := u N } ε
theorem vss_nil : VSs X [] vSkip := ⟨fun _ => tNext, fun _ _ => pss_nil, fun b σ H ε T Tv W N E I q l _ => l.nx σ H ε I q⟩
theorem vss_one {st : Stmt} {t : VTS} (h : VS X st t) : VSs X [st] t := let ⟨t', h1, h2⟩ := h.ex; ⟨t', fun W tk => pss_one (h1 W tk), h2⟩
theorem vss_cons {st : Stmt} {rest : List Stmt} {t u : VTS} (h : VS X st t) (g : VSs X rest u) : VSs X (st :: rest) (vSeq t u) := by
  obtain ⟨t', h1, h2⟩ := h.ex
  obtain ⟨u', g1, g2⟩ := g.ex
  refine ⟨fun W => tSeq (t' W) (u' W), fun W tk => pss_cons (h1 W tk) (g1 W tk), fun b σ H ε T Tv W N E I q l x => ?_⟩
  exact h2 b σ H ε T Tv W { N with nx := u N } { E with nx := u' W E } I q ⟨fun σ1 H1 ε1 J z => g2 b σ1 H1 ε1 T Tv W N E J z l x, l.rt, l.bk, l.ct⟩ x
def vBrk : VTS := fun N ε => N.bk ε
def vCnt : VTS := fun N ε => N.ct ε
def vDrop (t : VTE) : VTS := fun N ε => t N.rx ε fun _ ε1 => N.nx ε1
theorem vs_expr {e : Expr} {t : VTE} {pos : Pos} (h : VE X e t) (hs : swapsWith e none pos.line X.env = pure false := by rfl) : VS X (.Expr e pos) (vDrop t) := by
  obtain ⟨t', h1, h2⟩ := h.ex
  refine ⟨fun W => tDrop (t' W), fun W tk => ps_expr (h1 W tk) hs, fun b σ H ε T Tv W N E I q l x => ?_⟩
  exact h2 b σ H ε T Tv W N.rx _ _ I q (fun d v ε1 H1 J z => l.nx σ H1 ε1 (J.pop I.lenT) z) x
def vRet (t : VTE) : VTS := fun N ε => t N.rx ε N.rt
theorem vs_ret {e : Expr} {t : VTE} {pos : Pos} (h : VE X e t) : VS X (.Return (some e) pos) (vRet t) := by
  obtain ⟨t', h1, h2⟩ := h.ex
  refine ⟨fun W => tRet (t' W), fun W tk => ps_ret (h1 W tk), fun b σ H ε T Tv W N E I q l x => ?_⟩
  exact h2 b σ H ε T Tv W N.rx _ _ I q (fun d v ε1 H1 J z => l.rt σ H1 ε1 d v J z) x
def vRetN : VTS := fun N ε => N.rt .non ε
def vIfS (c : VTT) (t u : VTS) : VTS := fun N ε => c N.rx ε fun c ε1 => if c = true then t N ε1 else u N ε1
theorem vs_if {c : Expr} {a e : List Stmt} {tc : VTT} {t u : VTS} {pos : Pos} (hc : VT X c tc) (h : VSs X a t) (g : VSs X e u) : VS X (.If c a e pos) (vIfS tc t u) := by
  obtain ⟨tc', c1, c2⟩ := hc.ex
  obtain ⟨t', h1, h2⟩ := h.ex
  obtain ⟨u', g1, g2⟩ := g.ex
  refine ⟨fun W => tIfS (tc' W) (t' W) (u' W), fun W tk => ps_if (c1 W tk) (h1 W tk) (g1 W tk), fun b σ H ε T Tv W N E I q l x => ?_⟩
  refine c2 b σ H ε T Tv W N.rx _ _ I q (fun c ε1 H1 J z => ?_) x
  cases c with
  | true => exact h2 b σ H1 ε1 T Tv W N E J z l x
  | false => exact g2 b σ H1 ε1 T Tv W N E J z l x
/-- x = e -/
def vAsg (i : Nat) (t : VTE) : VTS := fun N ε => t N.rx ε fun d ε1 => i < ε1.length ∧ N.nx (ε1.set i (some d))
theorem Bx.free (b : Bx X) {i : Nat} (h : X.κ[i]? ≠ some true) : ∀ u, b.1.kv[i]? ≠ some (some u) := fun u e => h (b.2 i u e)
theorem vs_asg {i : Nat} {x : Str} {e : Expr} {t : VTE} {pos pos' : Pos} (hN : X.N.Nodup) (hi : X.N[i]? = some x) (hx : Loc X.env.scope x) (hk : X.κ[i]? ≠ some true) (h : VE X e t) (hs : swapsWith e (some (.Name x pos')) pos.line X.env = pure false := by rfl)
    (hf : X.fn x = true ∨ X.env.scope.names.lookup x = some .local := by first | exact .inl rfl | exact .inr rfl | assumption) : VS X (.Assign [.Name x pos'] e pos) (vAsg i t) := by
  obtain ⟨t', h1, h2⟩ := h.ex
  refine ⟨fun W => tAsg (t' W) (gName i), fun W tk => ps_set hN hi hx (h1 W tk) hs hf, fun b σ H ε T Tv W N E I q l x => ?_⟩
  exact h2 b σ H ε T Tv W N.rx _ _ I q (fun d v ε1 H1 J z => l.nx _ H1 _ (J.store I.lenT z.1 (b.free hk)) z.2) x
/-- what a target does with what it is given, which is held on top -/
abbrev VTG := D → Ep → (Ep → Prop) → Prop
structure VTa (X : Cv) (tg : Expr) (t : VTG) : Prop where
  ex : ∃ g : TG, PG X.toCx tg g ∧ ∀ (b : Bx X) σ H ε T Tv d v Q Q', SI X.K b.1 σ H ε (T ++ [d]) (Tv ++ [v]) → T.length = Tv.length → t d ε Q →
    (∀ ε' σ' H', SI X.K b.1 σ' H' ε' T Tv → Q ε' → Q' σ' H') → g v σ H Q'
def vName (i : Nat) : VTG := fun d ε Q => i < ε.length ∧ Q (ε.set i (some d))
theorem vt_name {i : Nat} {x : Str} {pos : Pos} (hN : X.N.Nodup) (hi : X.N[i]? = some x) (hx : Loc X.env.scope x) (hk : X.κ[i]? ≠ some true)
    (hf : X.fn x = true ∨ X.env.scope.names.lookup x = some .local := by first | exact .inl rfl | exact .inr rfl | assumption) : VTa X (.Name x pos) (vName i) :=
  ⟨gName i, pg_name hN hi hx hf, fun b σ H ε T Tv d v Q Q' I l q k => k _ _ _ (I.store l q.1 (b.free hk)) q.2⟩
end
end VL
namespace VL
open PySem PySem.Spec PyProof.Rows L2 VL
section
variable {K : PySem.W.Frag} {b : Bs} {σ : L2.St} {H H' : Hp} {ε : Ep} {T : List D} {Tv : List V}
theorem heldNone {σ : L2.St} : ∀ {R : List D} {Rv : List V}, R.length = Rv.length → Held σ (R.map fun _ => none) Rv
  | [], [], _ => trivial
  | _ :: R, _ :: Rv, h => heldNone (R := R) (Nat.succ.inj h)
  | [], _ :: _, h => by cases h
  | _ :: _, [], h => by cases h
theorem restoreNone : ∀ {R : List D} {ε : Ep}, restore (R.map fun _ => none) R ε = ε
  | [], _ => rfl
  | _ :: R, _ => restoreNone (R := R)
theorem SI.midDrops {R S : List D} {Rv Sv : List V} (I : SI K b σ H ε (T ++ (R ++ S)) (Tv ++ (Rv ++ Sv))) (hl : T.length = Tv.length) (hr : R.length = Rv.length) : SI K b σ H ε (T ++ S) (Tv ++ Sv) := by
  have := SI.restore hl (heldNone hr) hr I
  rw [restoreNone] at this
  exact this
/-- a held thing amid others goes to a slot -/
theorem SI.midStore {d : D} {v : V} {R : List D} {Rv : List V} (I : SI K b σ H ε (T ++ d :: R) (Tv ++ v :: Rv)) (hl : T.length = Tv.length) {i : Nat} (hi : i < ε.length) (hk : ∀ u, b.kv[i]? ≠ some (some u)) : SI K b (σ.set i (some v)) H (ε.set i (some d)) (T ++ R) (Tv ++ Rv) := by
  obtain ⟨G, F, Ft, J⟩ := I
  obtain ⟨F1, F2, rfl, r1, r2⟩ := J.temps.split2 hl
  obtain ⟨v', vs', A, B, e, rfl, rd, rs⟩ := r2
  obtain ⟨rfl, rfl⟩ := List.cons.inj e
  obtain ⟨ov, C, E, L, hs', rfl, ro, back⟩ := J.slots.focus (i := i) (List.getElem?_eq_getElem hi)
  have s2 := back G H (some d) (some v) A Sub.refl (fun _ _ => rfl) ⟨v, rfl, rd⟩
  have sb : ∀ a, a ∈ C ++ A ++ L ++ (F1 ++ B) → a ∈ C ++ E ++ L ++ (F1 ++ (A ++ B)) := fun a z => by
    simp only [List.mem_append] at z ⊢
    rcases z with ((z | z) | z) | z | z
    · exact .inl (.inl (.inl z))
    · exact .inr (.inr (.inl z))
    · exact .inl (.inr z)
    · exact .inr (.inl z)
    · exact .inr (.inr (.inr z))
  have nd : (C ++ A ++ L ++ (F1 ++ B)).Nodup := by
    have h1 : (C ++ E ++ L ++ (F1 ++ (A ++ B))).Perm (E ++ (C ++ A ++ L ++ (F1 ++ B))) := by
      apply List.perm_iff_count.mpr
      intro a
      simp only [List.count_append]
      omega
    exact (List.nodup_append.mp (h1.nodup_iff.mp J.nd)).2.1
  refine ⟨G, _, F1 ++ B, J.s0, J.sub, s2, r1.append rs, nd, fun a z => J.fr a (sb a z), fun a z => J.own a (sb a z), J.gn, J.keep, fun j u e => ?_⟩
  have hj : i ≠ j := fun z => by
    subst z
    exact hk u e
  rw [List.getElem?_set_ne hj]
  exact J.kept j u e
/-- a held tuple is opened -/
theorem SI.openT {ds : List D} {v : V} (I : SI K b σ H ε (T ++ [.tup ds]) (Tv ++ [v])) (hl : T.length = Tv.length) : ∃ a vs, v = .ref a ∧ SqT K H a vs ∧ ds.length = vs.length ∧ SI K b σ H ε (T ++ ds) (Tv ++ vs) := by
  obtain ⟨G, F, Ft, J⟩ := I
  obtain ⟨F1, F2, rfl, r1, r2⟩ := J.temps.split2 hl
  obtain ⟨a, vs, rfl, s, r⟩ := RpL.one.mp r2
  exact ⟨a, vs, rfl, SqT.of (J.sub _ _ s), r.len, G, F, F1 ++ F2, J.s0, J.sub, J.slots, r1.append r, J.nd, J.fr, J.own, J.gn, J.keep, J.kept⟩
theorem SI.openL {m : Bool} {ds : List D} {v : V} (I : SI K b σ H ε (T ++ [.lst m ds]) (Tv ++ [v])) (hl : T.length = Tv.length) : ∃ a vs, v = .ref a ∧ SqL K H a vs ∧ ds.length = vs.length ∧ SI K b σ H ε (T ++ ds) (Tv ++ vs) := by
  obtain ⟨G, F, Ft, J⟩ := I
  obtain ⟨F1, F2, rfl, r1, r2⟩ := J.temps.split2 hl
  have r2 := RpL.one.mp r2
  cases m with
  | false =>
    obtain ⟨a, vs, rfl, s, rfl, r⟩ := r2
    exact ⟨a, vs, rfl, J.sub.sqL s, r.len, G, F, F1 ++ [], J.s0, J.sub, J.slots, r1.append r, J.nd, J.fr, J.own, J.gn, J.keep, J.kept⟩
  | true =>
    obtain ⟨a, vs, F', rfl, s, rfl, r⟩ := r2
    have sb : ∀ c, c ∈ F ++ (F1 ++ F') → c ∈ F ++ (F1 ++ a :: F') := fun c z => by
      simp only [List.mem_append, List.mem_cons] at z ⊢
      rcases z with z | z | z
      · exact .inl z
      · exact .inr (.inl z)
      · exact .inr (.inr (.inr z))
    have nd : (F ++ (F1 ++ F')).Nodup := by
      have h1 : (F ++ (F1 ++ a :: F')).Perm ([a] ++ (F ++ (F1 ++ F'))) := by
        apply List.perm_iff_count.mpr
        intro c
        simp only [List.count_append, List.count_cons]
        simp
        omega
      exact (List.nodup_append.mp (h1.nodup_iff.mp J.nd)).2.1
    exact ⟨a, vs, rfl, SqL.of s, r.len, G, F, F1 ++ F', J.s0, J.sub, J.slots, r1.append r, nd, fun c z => J.fr c (sb c z), fun c z => J.own c (sb c z), J.gn, J.keep, J.kept⟩
end
section
variable {X : Cv}
def setAll : List Nat → List D → Ep → Ep
  | i :: is, d :: ds, ε => setAll is ds (ε.set i (some d))
  | _, _, ε => ε
structure VNs (X : Cv) (ts : List Expr) (is : List Nat) : Prop where
  ex : ∃ g : TGs, PGs X.toCx ts g ∧ ∀ (b : Bx X) σ H ε T Tv ds vs (Q : Ep → Prop) (Q' : L2.St → Hp → Prop), SI X.K b.1 σ H ε (T ++ ds) (Tv ++ vs) → T.length = Tv.length → ds.length = vs.length → is.length = ds.length → (∀ i ∈ is, i < ε.length) → Q (setAll is ds ε) →
    (∀ ε' σ' H', SI X.K b.1 σ' H' ε' T Tv → Q ε' → Q' σ' H') → g vs σ H Q'
theorem vns_nil : VNs X [] [] := ⟨gNil, pgs_nil, fun b σ H ε T Tv ds vs Q Q' I l hd hi _ q k => by
  cases ds with
  | cons _ _ => cases hi
  | nil =>
    cases vs with
    | cons _ _ => cases hd
    | nil => exact ⟨rfl, k ε σ H (by simpa using I) q⟩⟩
theorem vns_cons {x : Str} {pos : Pos} {es : List Expr} {i : Nat} {is : List Nat} (hN : X.N.Nodup) (hi : X.N[i]? = some x) (hx : Loc X.env.scope x) (hk : X.κ[i]? ≠ some true) (h : VNs X es is)
    (hs : (assignEach (.Name x pos :: es) X.env).map (·.2) = assign (.Name x pos) X.env :: (assignEach es X.env).map (·.2) := by rfl)
    (hf : X.fn x = true ∨ X.env.scope.names.lookup x = some .local := by first | exact .inl rfl | exact .inr rfl | assumption) : VNs X (.Name x pos :: es) (i :: is) := by
  obtain ⟨g, h1, h2⟩ := h.ex
  refine ⟨gCons (gName i) g, pgs_cons (pg_name hN hi hx hf) h1 hs, fun b σ H ε T Tv ds vs Q Q' I l hd hn hb q k => ?_⟩
  cases ds with
  | nil => cases hn
  | cons d ds =>
    cases vs with
    | nil => cases hd
    | cons v vs =>
      refine ⟨v, vs, rfl, ?_⟩
      exact h2 b _ H _ T Tv ds vs Q Q' (SI.midStore I l (hb i List.mem_cons_self) (b.free hk)) l (Nat.succ.inj hd) (Nat.succ.inj hn) (fun j z => by rw [List.length_set]; exact hb j (List.mem_cons_of_mem _ z)) q k
/-- the things that a tuple, a list holds -/
def items : D → Option (List D)
  | .tup ds => some ds
  | .lst _ ds => some ds
  | _ => none
def vNames (is : List Nat) : VTG := fun d ε Q => ∃ ds, items d = some ds ∧ is.length = ds.length ∧ (∀ i ∈ is, i < ε.length) ∧ Q (setAll is ds ε)
theorem vt_names {es : List Expr} {is : List Nat} {k : Nat} {pos : Pos} {n : Nat} (hc : X.calm = true) (h : VNs X es is)
    (hn : (assignEach es X.env).length = is.length := by rfl) (hst : (assignEach es X.env).findIdx? (·.1) = none := by rfl) : VTa X (.Tuple es k pos) (vNames is) := by
  obtain ⟨g, h1, h2⟩ := h.ex
  refine ⟨fun v σ H Q => gTup X.K is.length g v σ H Q ∨ gLst X.K is.length g v σ H Q, ⟨fun pins s σ H v u Q I r w => ?_⟩, fun b σ H ε T Tv d v Q Q' I l q z => ?_⟩
  · rcases w with w | w
    · exact (pg_tup hc h1 hn hst).run pins s σ H v u Q I r w
    · exact (pg_lst hc h1 hn hst).run pins s σ H v u Q I r w
  · obtain ⟨ds, hd, hl, hb, q⟩ := q
    cases d with
    | tup es =>
      cases hd
      obtain ⟨a, vs, rfl, s, l2, J⟩ := I.openT l
      exact .inl ⟨a, vs, rfl, s, by rw [← l2, hl], h2 b σ H ε T Tv ds vs Q Q' J l l2 hl hb q z⟩
    | lst m es =>
      cases hd
      obtain ⟨a, vs, rfl, s, l2, J⟩ := I.openL l
      exact .inr ⟨a, vs, rfl, s, by rw [← l2, hl], h2 b σ H ε T Tv ds vs Q Q' J l l2 hl hb q z⟩
    | _ => cases hd
def vAsgT (t : VTE) (g : VTG) : VTS := fun N ε => t N.rx ε fun d ε1 => g d ε1 N.nx
theorem vs_asgT {tg e : Expr} {t : VTE} {g : VTG} {pos : Pos} (h : VE X e t) (hg : VTa X tg g) (hs : swapsWithSole [tg] e pos.line X.env = pure false := by rfl) (hw : swappedStores [tg] e X.env = pure none := by rfl)
    (h1 : (assignEach [tg] X.env).map (·.2) = [assign tg X.env] := by rfl) : VS X (.Assign [tg] e pos) (vAsgT t g) := by
  obtain ⟨t', a1, a2⟩ := h.ex
  obtain ⟨g', g1, g2⟩ := hg.ex
  refine ⟨fun W => tAsg (t' W) g', fun W tk => ps_asg (a1 W tk) g1 hs hw h1, fun b σ H ε T Tv W N E I q l x => ?_⟩
  exact a2 b σ H ε T Tv W N.rx _ _ I q (fun d v ε1 H1 J z => g2 b σ H1 ε1 T Tv d v N.nx E.nx J I.lenT z fun ε' σ' H' J' z' => l.nx σ' H' ε' J' z') x
/-- the walk J gives ds one by one while R is held -/
def Wk (K : PySem.W.Frag) (J : It) (ds R : List D) (Rv : List V) : Prop := ∀ (b : Bs) σ H ε T Tv i, T.length = Tv.length → SI K b σ H ε (T ++ R) (Tv ++ Rv) →
  (∀ d, ds[i]? = some d → J.go i H ∧ ∀ x H', J.yld i H x H' → SI K b σ H' ε (T ++ (R ++ [d])) (Tv ++ (Rv ++ [x]))) ∧ (ds.length ≤ i → J.stop i H)
structure VI (X : Cv) (tg iter : Expr) (t : VTA) : Prop where
  ex : ∃ t' : WX → TI, (∀ W, Takes X.toCx W → PI X.toCx tg iter (t' W)) ∧ ∀ (b : Bx X) σ H ε T Tv W N Q Q', SI X.K b.1 σ H ε T Tv → t N ε Q →
    (∀ ds R Rv J ε' H', SI X.K b.1 σ H' ε' (T ++ R) (Tv ++ Rv) → R.length = Rv.length → Wk X.K J ds R Rv → Q ds ε' → Q' J H') → XL X.K b.1 T Tv W N → t' W σ H Q'
def vForL (g : VTG) (body : VTS) : List D → VTS
  | [], N, ε => N.nx ε
  | d :: ds, N, ε => g d ε fun ε1 => body { N with nx := fun ε' => vForL g body ds N ε', ct := fun ε' => vForL g body ds N ε', bk := N.nx } ε1
def vFor (wi : VTA) (g : VTG) (body : VTS) : VTS := fun N ε => wi N.rx ε fun ds ε1 => vForL g body ds N ε1
theorem vs_for {tg iter : Expr} {body : List Stmt} {wi : VTA} {g : VTG} {t : VTS} {pos : Pos} (hp : PassesOwn (model X.prog X.w) X.A X.env X.xe) (hc : X.calm = true) (hi : VI X tg iter wi) (hg : VTa X tg g) (hb : VSs X body t)
    (hs : ∀ x, foldedSetIterable iter X.env x = pure x := by intro _; rfl) : VS X (.For tg iter body [] pos) (vFor wi g t) := by
  obtain ⟨wi', w1, w2⟩ := hi.ex
  obtain ⟨g', g1, g2⟩ := hg.ex
  obtain ⟨t', t1, t2⟩ := hb.ex
  refine ⟨fun W => tFor (wi' W) g' (t' W), fun W tk => ps_for hp hc (w1 W tk) g1 (t1 W tk) hs, fun b σ H ε T Tv W N E I q l x => ?_⟩
  refine w2 b σ H ε T Tv W N.rx _ _ I q (fun ds R Rv J ε1 H1 I1 hr wk z => ?_) x
  have hl := I.lenT
  refine ⟨fun i m σ H => m = ds.length - i ∧ i ≤ ds.length ∧ ∃ ε, SI X.K b.1 σ H ε (T ++ R) (Tv ++ Rv) ∧ vForL g t (ds.drop i) N ε, ⟨ds.length, rfl, Nat.zero_le _, ε1, I1, z⟩, ?_⟩
  rintro i m σ2 H2 ⟨rfl, hi, ε2, I2, z2⟩
  obtain ⟨go, stop⟩ := wk b.1 σ2 H2 ε2 T Tv i hl I2
  by_cases hlt : i < ds.length
  · right
    rw [List.drop_eq_getElem_cons hlt] at z2
    obtain ⟨g0, gy⟩ := go ds[i] (List.getElem?_eq_getElem hlt)
    refine ⟨g0, fun σ' H' => ∃ ε, SI X.K b.1 σ' H' ε (T ++ R) (Tv ++ Rv) ∧ vForL g t (ds.drop (i + 1)) N ε, fun σ' H' y => ⟨ds.length - (i + 1), by omega, rfl, hlt, y⟩, fun v H' y => ?_⟩
    have I3 := gy v H' y
    have hl2 : (T ++ R).length = (Tv ++ Rv).length := by rw [List.length_append, List.length_append, hl, hr]
    refine g2 b σ2 H' ε2 (T ++ R) (Tv ++ Rv) ds[i] v _ _ (by simpa only [List.append_assoc] using I3) hl2 z2 fun ε4 σ4 H4 I4 z4 => ?_
    refine t2 b σ4 H4 ε4 (T ++ R) (Tv ++ Rv) W _ _ I4 z4 ⟨fun σ5 H5 ε5 I5 z5 => ⟨ε5, I5, z5⟩, fun σ5 H5 ε5 d5 v5 I5 z5 => l.rt σ5 H5 ε5 d5 v5 ?_ z5, fun σ5 H5 ε5 I5 z5 => l.nx σ5 H5 ε5 (I5.drop hl) z5, fun σ5 H5 ε5 I5 z5 => ⟨ε5, I5, z5⟩⟩ (x.more hl hr)
    exact SI.midDrops (by simpa only [List.append_assoc] using I5) hl hr
  · left
    have e : i = ds.length := by omega
    subst e
    rw [List.drop_length] at z2
    exact ⟨stop (Nat.le_refl _), l.nx σ2 H2 ε2 (I2.drop hl) z2⟩
theorem wk_lst {K : PySem.W.Frag} {ds : List D} {a : Addr} : Wk K (Itl K a) ds [.lst false ds] [.ref a] := fun b σ H ε T Tv i hl I => by
  obtain ⟨G, F, Ft, J⟩ := id I
  obtain ⟨F1, F2, rfl, r1, r2⟩ := J.temps.split2 hl
  obtain ⟨a', vs, e, s, rfl, r⟩ := RpL.one.mp r2
  cases e
  have s2 := J.sub.sqL s
  refine ⟨fun d hd => ?_, fun h => ⟨vs, s2, by rw [← r.len]; exact h⟩⟩
  obtain ⟨v, hv, rv⟩ := r.get hd
  refine ⟨⟨vs, v, s2, hv⟩, fun x H' y => ?_⟩
  obtain ⟨rfl, y⟩ := y
  have := y vs s2
  rw [hv] at this
  cases this
  have J2 := J.push (rv.mono (H' := H') Sub.refl fun _ z => nomatch z)
  exact ⟨G, F, _, by simpa only [List.append_assoc] using J2⟩
end
end VL
namespace VL
open PySem PySem.Spec PyProof.Rows L2 VL
section
variable {X : Cv} {tg : Expr}
theorem lenApp {α β : Type} {A B : List α} {C D : List β} (h : A.length = C.length) (k : B.length = D.length) : (A ++ B).length = (C ++ D).length := by
  rw [List.length_append, List.length_append, h, k]
/-- for .. in a list that stands still -/
def viLst (t : VTE) : VTA := fun N ε Q => t N ε fun d ε1 => ∃ ds, d = .lst false ds ∧ Q ds ε1
def viTup (t : VTE) : VTA := fun N ε Q => t N ε fun d ε1 => ∃ ds, d = .tup ds ∧ isFzL ds = true ∧ Q ds ε1
theorem vi_lst {e : Expr} {t : VTE} (h : VE X e t) : VI X tg e (viLst t) := by
  obtain ⟨t', a1, a2⟩ := h.ex
  refine ⟨fun W => iList X.K (t' W), fun W tk => pi_list (a1 W tk), fun b σ H ε T Tv W N Q Q' I q k x => ?_⟩
  refine a2 b σ H ε T Tv W N _ _ I q (fun d v ε1 H1 J z => ?_) x
  obtain ⟨ds, rfl, z⟩ := z
  obtain ⟨G, F, su, r⟩ := J.last I.lenT
  obtain ⟨a, vs, rfl, s, _, _⟩ := r
  exact ⟨a, rfl, ⟨vs, su.sqL s⟩, k ds [.lst false ds] [.ref a] _ ε1 H1 J rfl wk_lst z⟩
/-- lo, lo + 1, .. -/
def rng (lo : Int) (n : Nat) : List D := (List.range n).map fun (i : Nat) => D.int (lo + (i : Int))
theorem rng_get {lo : Int} {n i : Nat} {d : D} (h : (rng lo n)[i]? = some d) : i < n ∧ d = .int (lo + i) := by
  unfold rng at h
  rw [List.getElem?_map] at h
  cases e : (List.range n)[i]? with
  | none => rw [e] at h; cases h
  | some j =>
    rw [e] at h
    have := List.getElem?_eq_some_iff.mp e
    obtain ⟨h1, h2⟩ := this
    rw [List.getElem_range] at h2
    subst h2
    simp at h
    exact ⟨by simpa using h1, h.symm⟩
theorem rng_len (lo : Int) (n : Nat) : (rng lo n).length = n := by simp [rng]
theorem wk_rng {K : PySem.W.Frag} {lo : Int} {n : Nat} : Wk K (Itr lo n) (rng lo n) [] [] := fun b σ H ε T Tv i hl I => by
  refine ⟨fun d hd => ?_, fun h => by rw [rng_len] at h; exact h⟩
  obtain ⟨hi, rfl⟩ := rng_get hd
  refine ⟨hi, fun x H' y => ?_⟩
  obtain ⟨rfl, rfl⟩ := y
  have I2 : SI K b σ H' ε T Tv := by simpa using I
  exact I2.push fun G => ⟨rfl, rfl⟩
def viR1 (t : VTA) : VTA := fun N ε Q => t N ε fun ds ε1 => ∃ j : Int, ds = [.int j] ∧ -(2 ^ 62) ≤ j ∧ j < 2 ^ 62 ∧ Q (rng 0 j.toNat) ε1
def viR2 (t : VTA) : VTA := fun N ε Q => t N ε fun ds ε1 => ∃ i j : Int, ds = [.int i, .int j] ∧ (-(2 ^ 62) ≤ i ∧ i < 2 ^ 62 ∧ -(2 ^ 62) ≤ j ∧ j < 2 ^ 62) ∧ Q (rng i (j - i).toNat) ε1
theorem vi_range1 {a : Expr} {t : VTA} {p pos : Pos} (hg : Gl X.toCx "range") (hm : X.mg "range" = none) (ha : VA X [a] [none] t) (hs : starEach [a] X.env = [(false, eval a X.env)] := by rfl) : VI X tg (.Call (.Name "range" p) [a] [] pos) (viR1 t) := by
  obtain ⟨t', a1, a2⟩ := ha.ex
  refine ⟨fun W => iRng1 (t' W), fun W tk => pi_range1 hg hm (a1 W tk) hs, fun b σ H ε T Tv W N Q Q' I q k x => ?_⟩
  refine a2 b σ H ε T Tv W N _ _ I q (fun ds vs ε1 H1 J l hh z => ?_) x
  obtain ⟨j, rfl, h1, h2, z⟩ := z
  obtain ⟨v, rfl⟩ := List.length_eq_one_iff.mp l.symm
  obtain ⟨G, F, su, rfl, _⟩ := J.last I.lenT
  exact ⟨j, rfl, h1, h2, k _ [] [] _ ε1 H1 (by simpa using J.pop I.lenT) rfl wk_rng z⟩
theorem SI.last2 {K : PySem.W.Frag} {b : Bs} {σ : L2.St} {H : Hp} {ε : Ep} {T : List D} {Tv : List V} {d e : D} {v w : V} (I : SI K b σ H ε (T ++ [d, e]) (Tv ++ [v, w])) (hl : T.length = Tv.length) : ∃ G F1 F2, Sub G H ∧ Rp K G H d v F1 ∧ Rp K G H e w F2 := by
  obtain ⟨G, F, Ft, J⟩ := I
  obtain ⟨F1, F2, rfl, r1, r2⟩ := J.temps.split2 hl
  obtain ⟨v', vs', A, B, e1, rfl, ra, v2, vs2, A2, B2, e2, rfl, rb, _⟩ := r2
  cases e1
  cases e2
  exact ⟨G, A, A2, J.sub, ra, rb⟩
theorem len2 {α : Type} {l : List α} (h : 2 = l.length) : ∃ a b, l = [a, b] := by
  match l, h with
  | [a, b], _ => exact ⟨a, b, rfl⟩
/-- with their places, with one another -/
def enumD (ds : List D) : List D := ds.zipIdx.map fun p => D.tup [.int (p.2 : Nat), p.1]
def zipD (ds es : List D) : List D := (ds.zip es).map fun p => D.tup [p.1, p.2]
theorem zipD_get {ds es : List D} {i : Nat} {d : D} (h : (zipD ds es)[i]? = some d) : ∃ x y, ds[i]? = some x ∧ es[i]? = some y ∧ d = .tup [x, y] := by
  unfold zipD at h
  rw [List.getElem?_map] at h
  cases e : (ds.zip es)[i]? with
  | none => rw [e] at h; cases h
  | some p =>
    rw [e] at h
    obtain ⟨h1, h2⟩ := List.getElem?_zip_eq_some.mp e
    simp at h
    exact ⟨p.1, p.2, h1, h2, h.symm⟩
theorem zipD_len (ds es : List D) : (zipD ds es).length = min ds.length es.length := by simp [zipD]
/-- a new tuple of things that stand still -/
theorem SI.newTup {K : PySem.W.Frag} {b : Bs} {σ : L2.St} {H : Hp} {ε : Ep} {T : List D} {Tv : List V} {ds : List D} {vs : List V} (I : SI K b σ H ε (T ++ ds) (Tv ++ vs)) (hl : T.length = Tv.length) {p : Addr} (n : H p = none) : SI K b σ (upd H p (.tup vs)) ε (T ++ [.tup ds]) (Tv ++ [.ref p]) := I.tup hl n
def viEnum (t : VTA) : VTA := fun N ε Q => t N ε fun ds ε1 => ∃ xs, ds = [.lst false xs] ∧ Q (enumD xs) ε1
theorem wk_zip {K : PySem.W.Frag} {ds es : List D} {a c : Addr} : Wk K (Itz K a c) (zipD ds es) [.lst false ds, .lst false es] [.ref a, .ref c] := fun b σ H ε T Tv i hl I => by
  obtain ⟨G, F, Ft, J⟩ := id I
  obtain ⟨F1, F2, rfl, r1, r2⟩ := J.temps.split2 hl
  obtain ⟨v', vs', A, B, e1, rfl, ra, v2, vs2, A2, B2, e2, rfl, rb, rfl, rfl⟩ := r2
  cases e1
  cases e2
  obtain ⟨a', vs, e, s, rfl, r⟩ := ra
  cases e
  obtain ⟨c', us, e, s', rfl, r'⟩ := rb
  cases e
  have s2 := J.sub.sqL s
  have s3 := J.sub.sqL s'
  refine ⟨fun d hd => ?_, fun h => ⟨vs, us, s2, s3, by rw [zipD_len] at h; rw [← r.len, ← r'.len]; omega⟩⟩
  obtain ⟨x, y, hx, hy, rfl⟩ := zipD_get hd
  obtain ⟨v, hv, rv⟩ := r.get hx
  obtain ⟨u, hu, ru⟩ := r'.get hy
  refine ⟨⟨vs, us, v, u, s2, s3, hv, hu⟩, fun z H' q => ?_⟩
  obtain ⟨p, w1, w2, rfl, hp, rfl, y1, y2⟩ := q
  have e1 := y1 vs s2
  rw [hv] at e1
  cases e1
  have e2 := y2 us s3
  rw [hu] at e2
  cases e2
  have J1 := J.push (rv.mono (H' := H) Sub.refl fun _ z => nomatch z)
  have J2 := J1.push (ru.mono (H' := H) Sub.refl fun _ z => nomatch z)
  have I2 : SI K b σ H ε ((T ++ [.lst false ds, .lst false es]) ++ [x, y]) ((Tv ++ [.ref a, .ref c]) ++ [v, u]) := ⟨G, F, _, by simpa only [List.append_assoc, List.cons_append, List.nil_append] using J2⟩
  have I3 := I2.newTup (lenApp hl rfl) hp
  simpa only [List.append_assoc] using I3
def viZip (t : VTA) : VTA := fun N ε Q => t N ε fun ds ε1 => ∃ xs ys, ds = [.lst false xs, .lst false ys] ∧ Q (zipD xs ys) ε1
def viRev (t : VTA) : VTA := fun N ε Q => t N ε fun ds ε1 => ∃ xs, ds = [.lst false xs] ∧ Q xs.reverse ε1
def viStr (t : VTE) : VTA := fun N ε Q => t N ε fun d ε1 => ∃ s : Cs, d = .str s ∧ Q (s.map fun c => D.str [c]) ε1
def vWhile (c : VTT) (t : VTS) : VTS := fun N ε => ∃ J : Nat → Ep → Prop, (∃ m, J m ε) ∧ ∀ m ε, J m ε → c N.rx ε fun k ε1 =>
  if k = true then t { N with nx := fun ε' => ∃ m', m' < m ∧ J m' ε', ct := fun ε' => ∃ m', m' < m ∧ J m' ε', bk := N.nx } ε1 else N.nx ε1
theorem vs_while {c : Expr} {body : List Stmt} {tc : VTT} {t : VTS} {pos : Pos} (hp : PassesOwn (model X.prog X.w) X.A X.env X.xe) (hc : VT X c tc) (hb : VSs X body t) : VS X (.While c body [] pos) (vWhile tc t) := by
  obtain ⟨c', c1, c2⟩ := hc.ex
  obtain ⟨t', t1, t2⟩ := hb.ex
  refine ⟨fun W => tWhile (c' W) (t' W), fun W tk => ps_while hp (c1 W tk) (t1 W tk), fun b σ H ε T Tv W N E I q l x => ?_⟩
  obtain ⟨J, ⟨m0, j0⟩, turn⟩ := q
  refine ⟨fun m σ H => ∃ ε, SI X.K b.1 σ H ε T Tv ∧ J m ε, ⟨m0, ε, I, j0⟩, ?_⟩
  rintro m σ2 H2 ⟨ε2, I2, j2⟩
  refine c2 b σ2 H2 ε2 T Tv W N.rx _ _ I2 (turn m ε2 j2) (fun k ε3 H3 I3 z => ?_) x
  cases k with
  | true =>
    refine ⟨fun σ' H' => ∃ ε', SI X.K b.1 σ' H' ε' T Tv ∧ ∃ m', m' < m ∧ J m' ε', fun σ' H' ⟨ε', I', m', hm, j'⟩ => ⟨m', hm, ε', I', j'⟩, ?_⟩
    exact t2 b σ2 H3 ε3 T Tv W _ _ I3 z ⟨fun σ5 H5 ε5 I5 z5 => ⟨ε5, I5, z5⟩, l.rt, l.nx, fun σ5 H5 ε5 I5 z5 => ⟨ε5, I5, z5⟩⟩ x
  | false => exact l.nx σ2 H3 ε3 I3 z
end
end VL
namespace VL
open PySem PySem.Spec PyProof.Rows L2 VL
/-- a promise over trees: the arguments; what is wanted of the answer and of the arguments behind; of an exception's class and row -/
abbrev VSp := List D → (D → List D → Prop) → (Value → D → List D → Prop) → Prop
/-- the ground of a call -/
def callB (H G : Hp) (F : List Addr) : Bs := { H0 := H, G0 := G, F0 := F, kv := [] }
def Lift (K : PySem.W.Frag) (n : Nat) (vsp : VSp) : Sp := fun vs H Q E => ∃ G F ds, SIx K (callB H G F) G [] F [] H [] ds vs ∧ ds.length = n ∧
  vsp ds (fun r ds' => ∀ v H', SI K (callB H G F) [] H' [] (ds' ++ [r]) (vs ++ [v]) → Q v H')
    (fun cls row ds' => ∀ dd v H', SI K (callB H G F) [] H' [] (ds' ++ [row]) (vs ++ [v]) → H' dd = some (.xd [("row", v)]) → (dd ∈ F ∨ H dd = none) → E (clsV K cls) (some dd) H')
theorem Lift.len {K : PySem.W.Frag} {n : Nat} {vsp : VSp} {vs : List V} {H : Hp} {Q : VK} {E : XK} (h : Lift K n vsp vs H Q E) : vs.length = n := by
  obtain ⟨G, F, ds, I, l, _⟩ := h
  rw [← I.lenT, l]
section
variable {K : PySem.W.Frag} {b : Bs} {σ : L2.St} {H H' : Hp} {ε : Ep} {T : List D} {Tv : List V}
/-- what a callee is handed -/
theorem SI.enter {ds : List D} {vs : List V} (I : SI K b σ H ε (T ++ ds) (Tv ++ vs)) (hl : T.length = Tv.length) : ∃ G F, SIx K (callB H G F) G [] F [] H [] ds vs ∧
    (∀ H' (R : List D) (Rv : List V), SI K (callB H G F) [] H' [] R Rv → SI K b σ H' ε (T ++ R) (Tv ++ Rv)) ∧ ∀ a, (a ∈ F ∨ H a = none) → (a ∈ b.F0 ∨ b.H0 a = none) := by
  obtain ⟨G, F, Ft, J⟩ := I
  obtain ⟨F1, F2, rfl, r1, r2⟩ := J.temps.split2 hl
  have i2 : ∀ a ∈ F2, a ∈ F ++ (F1 ++ F2) := fun a z => List.mem_append_right _ (List.mem_append_right _ z)
  have nd := J.nd
  rw [← List.append_assoc] at nd
  obtain ⟨nd1, nd2, dj⟩ := List.nodup_append.mp nd
  refine ⟨G, F2, ⟨Sub.refl, J.sub, ⟨rfl, rfl⟩, r2, by simpa using nd2, fun a z => J.fr a (i2 a (by simpa using z)), fun a z => .inl (show a ∈ F2 by simpa using z), fun a o e => .inl e, fun a o e _ => e, fun j v e => by simp [callB] at e⟩, ?_, fun a z => z.elim (fun z => J.own a (i2 a z)) fun z => J.h0 z⟩
  rintro H' R Rv ⟨G', Fs, F', J'⟩
  obtain ⟨_, rfl⟩ := J'.slots
  have out : ∀ a ∈ F ++ F1, a ∉ F2 ∧ ∃ o, H a = some o := fun a z => by
    refine ⟨fun h => dj a z a h rfl, ?_⟩
    rcases List.mem_append.mp z with z | z
    · obtain ⟨o, e, _⟩ := J.slots.there a z
      exact ⟨o, e⟩
    · obtain ⟨o, e, _⟩ := r1.there a z
      exact ⟨o, e⟩
  have kp : ∀ a ∈ F ++ F1, H' a = H a := fun a z => by
    obtain ⟨n, o, e⟩ := out a z
    rw [e]
    exact J'.keep a o e n
  have own' : ∀ a ∈ F', a ∈ F2 ∨ H a = none := fun a z => J'.own a (by simpa using z)
  refine ⟨G', F, F1 ++ F', J.s0.trans J'.s0, J'.sub, J.slots.mono J'.s0 fun a z => kp a (List.mem_append_left _ z), (r1.mono J'.s0 fun a z => kp a (List.mem_append_right _ z)).append J'.temps, ?_, ?_, ?_, ?_, ?_, J.kept⟩
  · rw [← List.append_assoc]
    refine List.nodup_append.mpr ⟨nd1, by simpa using J'.nd, fun a z c hc e => ?_⟩
    subst e
    obtain ⟨n, o, e⟩ := out a z
    rcases own' a hc with h | h
    · exact n h
    · rw [e] at h; cases h
  · intro a z
    rw [← List.append_assoc] at z
    rcases List.mem_append.mp z with z | z
    · obtain ⟨n, o, e⟩ := out a z
      cases q : G' a with
      | none => rfl
      | some u =>
        rcases J'.gn a u q with h | h | h | ⟨vs, h⟩
        · have := J.fr a (by rw [← List.append_assoc]; exact List.mem_append_left _ z)
          rw [show G a = some u from h] at this
          cases this
        · exact absurd h n
        · rw [show H a = none from h] at e; cases e
        · subst h
          have h1 := J'.sub a _ q
          rw [kp a z] at h1
          have h2 : ∃ o, H a = some o ∧ Mut (some o) := by
            rcases List.mem_append.mp z with z | z
            · exact J.slots.there a z
            · exact r1.there a z
          obtain ⟨o2, e2, m2⟩ := h2
          rw [h1] at e2
          cases e2
          exact m2.elim
    · exact J'.fr a (by simpa using z)
  · intro a z
    rw [← List.append_assoc] at z
    rcases List.mem_append.mp z with z | z
    · exact J.own a (by rw [← List.append_assoc]; exact List.mem_append_left _ z)
    · rcases own' a z with h | h
      · exact J.own a (i2 a h)
      · cases e : b.H0 a with
        | none => exact .inr rfl
        | some o =>
          by_cases h0 : a ∈ b.F0
          · exact .inl h0
          · rw [J.keep a o e h0] at h; cases h
  · intro a o e
    rcases J'.gn a o e with h | h | h | h
    · exact J.gn a o h
    · exact .inr (inl3 (J.own a (i2 a h)))
    · right
      cases e : b.H0 a with
      | none => exact .inr (.inl rfl)
      | some o =>
        by_cases h0 : a ∈ b.F0
        · exact .inl h0
        · have z := J.keep a o e h0
          rw [show H a = none from h] at z; cases z
    · exact .inr (.inr (.inr h))
  · intro a o e n
    refine J'.keep a o (J.keep a o e n) fun h => ?_
    rcases J.own a (i2 a h) with q | q
    · exact n q
    · rw [e] at q; cases q
end
/-- room for n calls within one another, and for the library's own small things -/
structure Room (n : Nat) (W : Around) : Prop where
  hd : W.handled = none
  dp : W.depth + (n + 300) < recursionLimit
  un : W.units + (4 * n + 1700) < cLine
section
variable {m n : Nat} {W : Around}
theorem Room.mono (q : Room n W) (le : m ≤ n) : Room m W := { hd := q.hd, dp := by have z := q.dp; omega, un := by have z := q.un; omega }
/-- one call deeper -/
theorem Room.step (q : Room (n + 1) W) {V : Around} (h : V.handled = W.handled) (d : V.depth ≤ W.depth + 1) (u : V.units ≤ W.units + 3) : Room n V := { hd := h.trans q.hd, dp := by have z := q.dp; omega, un := by have z := q.un; omega }
theorem Room.deeper (q : Room (n + 1) W) (env : Env) : Room n (W.deeper env) := q.step rfl (Nat.le_refl _) (Nat.le_refl _)
theorem Room.make (q : Room (n + 1) W) (C : Addr) (us : List Value) (kw : List (Str × Value)) : Room n (W.under (.builtin "type.__call__" ⟨.ref C :: us, kw⟩)) :=
  q.step rfl (Nat.le_of_eq make_depth) (Nat.le_trans (Nat.le_of_eq make_units) (Nat.add_le_add_left (by decide) _))
theorem Room.depth (q : Room n W) : W.depth < recursionLimit := Nat.lt_of_le_of_lt (Nat.le_add_right _ _) q.dp
theorem Room.units (q : Room n W) : W.units + 64 < cLine := by have z := q.un; omega
/-- the library's room, for what is shallow -/
theorem Room.low (q : Room n W) (h : m ≤ 90) : L2.Room m W := ⟨q.hd, by have z := q.dp; omega, by have z := q.un; omega⟩
theorem Room.of (q : L2.Room m W) (h : n + 300 ≤ 3 * m) : Room n W := ⟨q.hd, by have z := q.dp; omega, by have z := q.un; omega⟩
end
section
variable {P : Program} {w : World} {K : PySem.W.Frag} {mg : Str → Option Value} {base : Heap} {CX : CXT} {f : Addr} {fd : FuncData} {ps : List Str} {sp : Sp}
/-- the promise of a def, for calls that stand at W -/
def KeepsAt (P : Program) (w : World) (K : PySem.W.Frag) (mg : Str → Option Value) (base : Heap) (CX : CXT) (W : Around) (f : Addr) (fd : FuncData) (ps : List Str) (sp : Sp) : Prop :=
  ∀ (o : List Env) (s : Shared) (H : Hp) (a : Args) (us : List Value) (vs : List V) (Q : VK) (E : XK), Env0 P w K mg base W o s H → BindsTo s fd a (ps.zip us) → Vals vs us → sp vs H Q E → codeAny (model P w) W (.call (.ref f) a) (CR CX o P w H s Q E) s
/-- .. wherever there is room for n calls -/
structure FnOk (P : Program) (w : World) (K : PySem.W.Frag) (mg : Str → Option Value) (base : Heap) (CX : CXT) (n : Nat) (f : Addr) (fd : FuncData) (ps : List Str) (sp : Sp) : Prop where
  len : ∀ {vs H Q E}, sp vs H Q E → vs.length = ps.length
  keeps : ∀ {W}, Room n W → KeepsAt P w K mg base CX W f fd ps sp
theorem FnOk.mono {m n : Nat} (F : FnOk P w K mg base CX m f fd ps sp) (le : m ≤ n) : FnOk P w K mg base CX n f fd ps sp := ⟨F.len, fun q => F.keeps (q.mono le)⟩
/-- as the library's -/
theorem FnOk.lib {m n : Nat} (F : FnOk P w K mg base CX n f fd ps sp) (h : n + 300 ≤ 3 * m) : L2.FnOk P w K mg base CX m f fd ps sp :=
  ⟨fun _ _ _ _ z => F.len z, fun _ o s H a us vs Q E q => F.keeps (.of q h) o s H a us vs Q E⟩
end
section
variable {X : Cx} {CX : CXT} {pins : List (Addr × Obj)} {σ : L2.St} {H : Hp} {s s' : Shared} {Q : VK}
/-- how a call ends, for who asked -/
def Asked (X : Cx) (pins : List (Addr × Obj)) (σ : L2.St) (Q : VK) : Result → Shared → Prop
  | .ok (.ret u), z => EP X pins σ Q u z
  | .error e, z => X.xe e z
  | _, _ => False
theorem asked {E : XK} {r : Result} (I : Inv X pins σ H s) (hx : ∀ e z, CX X.stack H s E e z → X.xe e z) (q : CR CX X.stack X.prog X.w H s Q E r s') : Asked X pins σ Q r s' := by
  match r, q with
  | .error e, q => exact hx e s' q
  | .ok (.ret u), q => exact I.after q
/-- a callee's code, called -/
theorem call_asked {g : Addr} {us : List Value} (h : codeAny (model X.prog X.w) X.A (.call (.ref g) ⟨us, []⟩) (Asked X pins σ Q) s) : wpAny (model X.prog X.w) X.A (call (.ref g) us) (EP X pins σ Q) X.xe s :=
  wpAny_call (codeAny_mono h fun r z q => match r, q with
    | .error _, q => q
    | .ok (.ret _), q => q)
/-- a call by a global name of what stands at g, when its values are known to be taken as R says -/
theorem pe_named {R : L2.St → List V → Hp → VK → Prop} {g : Addr} {x : Str} {p pos : Pos} {e : Expr} {es : List Expr} {t : TA} (gl : Gl X x) (is : X.mg x = some (.ref g)) (kept : PySem.W.keepIn X.K (.ref g) = true) (args : PA X (e :: es) t)
    (runs : ∀ (pins : List (Addr × Obj)) (σ : L2.St) (H : Hp) (s : Shared) (Q : VK) (us : List Value) (vs : List V), Inv X pins σ H s → Vals vs us → R σ vs H Q → wpAny (model X.prog X.w) X.A (call (.ref g) us) (EP X pins σ Q) X.xe s)
    (nd : (x == ("__debug__" : Str)) = false) (ns : starEach (e :: es) X.env = (false, eval e X.env) :: starEach es X.env) (np : (backTo pos (starEach es X.env)).any (·.1) = false) :
    PE X (.Call (.Name x p) (e :: es) [] pos) fun σ H Q => t σ H fun vs H1 => R σ vs H1 Q :=
  ⟨fun pins s σ H Q I z => wpAny_Call_Name_kw (ld_glob I gl is
    (PySem.W.callWith_K (h₀ := X.base) I.ok.mod.kin kept (thn (args.run pos pins s σ H _ I z) fun us s1 ⟨vs, H1, J, rv, q⟩ => ⟨J.kIn, runs pins σ H1 s1 Q us vs J rv q⟩) ns np) nd)⟩
end
section
variable {X : Cx} {CX : CXT} {k : Nat} {f C : Addr} {fd : FuncData} {ps : List Str} {sp : Sp} {dvs : List V} {ds : List Value} {E : L2.St → XK} {x : Str} {p pos : Pos} {e : Expr} {es : List Expr} {t : TA}
/-- a def, called with values; dvs: its defaults -/
theorem run_fnSD {pins : List (Addr × Obj)} {σ : L2.St} {H : Hp} {s : Shared} {Q : VK} {us : List Value} {vs : List V} (F : FnOk X.prog X.w X.K X.mg X.base CX k f fd ps sp) (room : Room k X.A) (hb : Binds X.K fd ps ds) (hd : Vals dvs ds) (hx : PassesAt CX X σ (E σ))
    (I : Inv X pins σ H s) (rv : Vals vs us) (q : sp (vs ++ dvs) H Q (E σ)) : wpAny (model X.prog X.w) X.A (call (.ref f) us) (EP X pins σ Q) X.xe s := by
  have all : Vals (vs ++ dvs) (us ++ ds) := rv.append hd
  refine call_asked (codeAny_mono (F.keeps room X.stack s H ⟨us, []⟩ (us ++ ds) (vs ++ dvs) Q (E σ) I.env0 (hb s us I.kIn (all.length.symm.trans (F.len q))) all q) fun r z c => ?_)
  exact asked I (fun e z => hx pins H s e z I) c
theorem run_fnS {pins : List (Addr × Obj)} {σ : L2.St} {H : Hp} {s : Shared} {Q : VK} {us : List Value} {vs : List V} (F : FnOk X.prog X.w X.K X.mg X.base CX k f fd ps sp) (room : Room k X.A) (hb : Binds X.K fd ps []) (hx : PassesAt CX X σ (E σ))
    (I : Inv X pins σ H s) (rv : Vals vs us) (q : sp vs H Q (E σ)) : wpAny (model X.prog X.w) X.A (call (.ref f) us) (EP X pins σ Q) X.xe s :=
  run_fnSD (dvs := []) F room hb .nil hx I rv (by simpa using q)
theorem pe_callS (F : FnOk X.prog X.w X.K X.mg X.base CX k f fd ps sp) (room : Room k X.A) (gl : Gl X x) (is : X.mg x = some (.ref f)) (kept : PySem.W.keepIn X.K (.ref f) = true) (hb : Binds X.K fd ps []) (hx : ∀ σ, PassesAt CX X σ (E σ))
    (args : PA X (e :: es) t) (nd : (x == ("__debug__" : Str)) = false) (ns : starEach (e :: es) X.env = (false, eval e X.env) :: starEach es X.env) (np : (backTo pos (starEach es X.env)).any (·.1) = false) : PE X (.Call (.Name x p) (e :: es) [] pos) (tCallS sp E t) :=
  pe_named (R := fun σ vs H Q => sp vs H Q (E σ)) gl is kept args (fun _ σ _ _ _ _ _ I rv q => run_fnS F room hb (hx σ) I rv q) nd ns np
theorem pe_callSD (F : FnOk X.prog X.w X.K X.mg X.base CX k f fd ps sp) (room : Room k X.A) (gl : Gl X x) (is : X.mg x = some (.ref f)) (kept : PySem.W.keepIn X.K (.ref f) = true) (hb : Binds X.K fd ps ds) (hd : Vals dvs ds) (hx : ∀ σ, PassesAt CX X σ (E σ))
    (args : PA X (e :: es) t) (nd : (x == ("__debug__" : Str)) = false) (ns : starEach (e :: es) X.env = (false, eval e X.env) :: starEach es X.env) (np : (backTo pos (starEach es X.env)).any (·.1) = false) : PE X (.Call (.Name x p) (e :: es) [] pos) (tCallSD sp dvs E t) :=
  pe_named (R := fun σ vs H Q => sp (vs ++ dvs) H Q (E σ)) gl is kept args (fun _ σ _ _ _ _ _ I rv q => run_fnSD F room hb hd (hx σ) I rv q) nd ns np
/-- C(..): the wish is the library's, at values -/
theorem run_make {E : XK} {pins : List (Addr × Obj)} {σ : L2.St} {H : Hp} {s : Shared} {Q : VK} {us : List Value} {vs : List V} (M : L2.Mk X.K C f) (F : FnOk X.prog X.w X.K X.mg X.base CX k f fd ps sp) (room : Room (k + 1) X.A) (hb : Binds X.K fd ps ds) (hd : Vals dvs ds)
    (hx : Passes CX X E) (I : Inv X pins σ H s) (rv : Vals vs us) (q : tMake C sp dvs E (fun _ H Q => Q vs H) σ H Q) : wpAny (model X.prog X.w) X.A (call (.ref C) us) (EP X pins σ Q) X.xe s := by
  have newer : ∀ a, s.heap.objs.size ≤ a → H a = none := fun _ le => I.hok.fresh le
  have wish := q (s.heap.objs.size + 1) s.heap.objs.size (newer _ (Nat.le_succ _)) (newer _ (Nat.le_refl _)) (Nat.succ_ne_self _).symm
  have J := Inv.made (C := C) I
  have all : Vals (V.ref (s.heap.objs.size + 1) :: (vs ++ dvs)) (Value.ref (s.heap.objs.size + 1) :: (us ++ ds)) := .cons rfl (rv.append hd)
  have to := hb _ (Value.ref (s.heap.objs.size + 1) :: us) J.kIn (all.length.symm.trans (F.len wish))
  refine call_asked (make_map (f := f) I.kIn M.makes M.init (beq_iff_eq.mp M.fn) (codeAny_mono (F.keeps (room.make C us []) X.stack _ _ ⟨_ :: us, []⟩ _ _ _ E (J.env0.make C us []) to all wish) fun r z c => ?_))
  match r, c with
  | .error e, c => exact hx pins σ _ _ e z J c
  | .ok (.ret u), c =>
    obtain ⟨v, H2, J2, ru, rfl, w2⟩ := J.after c
    exact ⟨ru, .ref (s.heap.objs.size + 1), H2, J2, rfl, w2⟩
theorem pe_make {E : XK} (M : L2.Mk X.K C f) (F : FnOk X.prog X.w X.K X.mg X.base CX k f fd ps sp) (room : Room (k + 1) X.A) (gl : Gl X x) (is : X.mg x = some (.ref C)) (hb : Binds X.K fd ps ds) (hd : Vals dvs ds) (hx : Passes CX X E)
    (args : PA X (e :: es) t) (nd : (x == ("__debug__" : Str)) = false) (ns : starEach (e :: es) X.env = (false, eval e X.env) :: starEach es X.env) (np : (backTo pos (starEach es X.env)).any (·.1) = false) : PE X (.Call (.Name x p) (e :: es) [] pos) (tMake C sp dvs E t) :=
  pe_named (R := fun σ vs H Q => tMake C sp dvs E (fun _ H Q => Q vs H) σ H Q) gl is M.kp args (fun _ _ _ _ _ _ _ I rv q => run_make M F room hb hd hx I rv q) nd ns np
end
/-- a def keeps what its body's reading wishes -/
theorem fnD_ok {P : Program} {w : World} {K : PySem.W.Frag} {mg : Str → Option Value} {base : Heap} {CX : CXT} {x qual : Str} {pa : Arguments} {body : List Stmt} {sc : Scope} {dvs : List V} {kws : List (Str × V)} {f : Addr} {fd : FuncData} {N ps : List Str} {n : Nat} {sp : Sp}
    (F : FunD K x qual pa body sc dvs kws f fd) (S : FnScope N ps sc) (len : ∀ {vs H Q E}, sp vs H Q E → vs.length = ps.length)
    (reads : ∀ (cdv : Value) (W : Around) (o : List Env) (s : Shared) (H : Hp) (vs : List V) (Q : VK) (E : XK), Room n (W.deeper (envOfC qual sc s.heap.objs.size f cdv)) → sp vs H Q E →
      ∃ t, PSs (cxOf CX P w K mg base N qual sc f cdv W o s H E) body t ∧ t { nx := fun _ H2 => Q .non H2, rt := Q } (start N vs) H) : FnOk P w K mg base CX (n + 1) f fd ps sp := by
  obtain ⟨oc, od, dV, kV, doc, pm, an, cdv, ct, osl, rfl, at1, code, _⟩ := F.ex
  refine { len := len, keeps := fun {W} room o s H a us vs Q E e0 to rv q => ?_ }
  have old := fun b ob z => (e0.bs b ob z).1
  have inK := e0.mod.kin.keeps old
  refine codeAny_call_function room.depth (inK _ _ at1) rfl S.co S.gen rfl (PySem.W.codeRec_of inK code) (to _ _ _ _ (wpAny_newFunctionEnv_cells S.kind (fun y hy => ?_) fun env is s1 ent => ?_))
  · exact (S.par y.1 (List.of_mem_zip (a := y.1) (b := y.2) hy).1).imp id fun c => ⟨c, PySem.W.cellsFrom_some _ _ _ (.inl c)⟩
  · subst is
    obtain ⟨t, rd, wish⟩ := reads cdv W o s H vs Q E (room.deeper _) q
    refine ⟨(e0.mod.nolimit.keeps old).keeps ent.toInCall.keep, codeAny_func (wpAny_mono (rd.run [] s1 (start N vs) H _ (inv_start S room.hd e0 (len q) rv ent) wish) (fun fl z c => ?_) fun _ _ c => c)⟩
    match fl, c with
    | .ret u, ⟨v, _, H2, J, ru, q2⟩ => exact ⟨v, H2, J.os, J.bare, J.base, J.hok, ru, q2⟩
    | .next, ⟨_, H2, J, q2⟩ => exact ⟨.non, H2, J.os, J.bare, J.base, J.hok, rfl, q2⟩
    | .brk, ⟨_, _, _, q2⟩ => exact q2.elim
    | .cont, ⟨_, _, _, q2⟩ => exact q2.elim
/-- a def that keeps a promise over trees: its name, its level, how many parameters it has, the defaults that fill up -/
structure Fv (P : Program) (w : World) (K : PySem.W.Frag) (mg : Str → Option Value) (base : Heap) (x : Str) (k n : Nat) (vsp : VSp) : Prop where
  ex : ∃ f fd ps, mg x = some (.ref f) ∧ PySem.W.keepIn K (.ref f) = true ∧ Binds K fd ps [] ∧ FnOk P w K mg base (VL.CX P w) k f fd ps (Lift K n vsp)
theorem Fv.mono {P w K mg base x j k n vsp} (F : Fv P w K mg base x j n vsp) (h : j ≤ k) : Fv P w K mg base x k n vsp := let ⟨f, fd, ps, a, b, c, d⟩ := F.ex; ⟨f, fd, ps, a, b, c, d.mono h⟩
section
variable {X : Cv}
def vCall (vsp : VSp) (rs : List (Option Nat)) (t : VTA) : VTE := fun N ε Q => t N ε fun ds ε1 => vsp ds (fun r ds' => ds'.length = ds.length ∧ Q r (restore rs ds' ε1)) (fun cls row ds' => ds'.length = ds.length ∧ N cls row (restore rs ds' ε1))
theorem call_run {P : VSp} {n : Nat} {b : Bx X} {σ : L2.St} {H : Hp} {ε : Ep} {T : List D} {Tv : List V} {ds : List D} {vs : List V} {rs : List (Option Nat)} {W : WX} {N : WV} {Q : D → Ep → Prop} {Q' : VK}
    (hl : T.length = Tv.length) (hd : ds.length = vs.length) (hn : ds.length = n) (I : SI X.K b.1 σ H ε (T ++ ds) (Tv ++ vs)) (hh : Held σ rs vs)
    (q : P ds (fun r ds' => ds'.length = ds.length ∧ Q r (restore rs ds' ε)) (fun cls row ds' => ds'.length = ds.length ∧ N cls row (restore rs ds' ε)))
    (mono : ∀ (A A' : D → List D → Prop) (B B' : Value → D → List D → Prop), (∀ r l, A r l → A' r l) → (∀ c r l, B c r l → B' c r l) → P ds A B → P ds A' B')
    (k : ∀ d v ε' H', SI X.K b.1 σ H' ε' (T ++ [d]) (Tv ++ [v]) → Q d ε' → Q' v H') (x : XL X.K b.1 T Tv W N) : Lift X.K n P vs H Q' (fun cls d H' => W cls d σ H') := by
  obtain ⟨G, F, J, out, fr⟩ := I.enter hl
  refine ⟨G, F, ds, J, hn, mono _ _ _ _ (fun r ds' z v H' I' => ?_) (fun cls row ds' z dd v H' I' e n => ?_) q⟩
  · have I2 := out H' _ _ I'
    exact k r v _ H' (SI.restore hl hh (z.1.trans hd) I2) z.2
  · have I2 := out H' _ _ I'
    exact x cls dd σ H' _ row v (SI.restore hl hh (z.1.trans hd) I2) e (fr dd n) z.2
/-- a promise that asks no more of more -/
def Mono (vsp : VSp) : Prop := ∀ (ds : List D) (A A' : D → List D → Prop) (B B' : Value → D → List D → Prop), (∀ r l, A r l → A' r l) → (∀ c r l, B c r l → B' c r l) → vsp ds A B → vsp ds A' B'
theorem ve_call {x : Str} {p pos : Pos} {e : Expr} {es : List Expr} {rs : List (Option Nat)} {t : VTA} {k n : Nat} {vsp : VSp} (F : Fv X.prog X.w X.K X.mg X.base x k n vsp) (m : Mono vsp) (hr : Room k X.A) (hg : Gl X.toCx x) (hn : (e :: es).length = n) (ha : VA X (e :: es) rs t)
    (hrs : rs.length = (e :: es).length := by rfl) (hdb : (x == ("__debug__" : Str)) = false := by decide) (he : starEach (e :: es) X.env = (false, eval e X.env) :: starEach es X.env := by rfl) (hpl : (backTo pos (starEach es X.env)).any (·.1) = false := by rfl) :
    VE X (.Call (.Name x p) (e :: es) [] pos) (vCall vsp rs t) := by
  obtain ⟨f, fd, ps, hm, hk, hb, F⟩ := F.ex
  obtain ⟨t', a1, a2⟩ := ha.ex
  refine ⟨fun W => tCallS (Lift X.K n vsp) (WE W) (t' W), fun W tk => pe_callS F hr hg hm hk hb (fun σ => passAt tk σ) (a1 W tk) hdb he hpl, fun b σ H ε T Tv W N Q Q' I q kk x => ?_⟩
  refine a2 b σ H ε T Tv W N _ _ I q (fun ds vs ε1 H1 J l hd z => ?_) x
  exact call_run I.lenT l (by rw [l, ← hd.len, hrs, hn]) J hd z (m ds) kk x
end
/-- the slots at the entry -/
def startE (N : Nat) (ds : List D) : Ep := ds.map some ++ List.replicate (N - ds.length) none
/-- the arguments behind: those whose slots are kept, as they are; the others, where nothing of them was ours -/
def finalL : List Bool → List D → Ep → List D
  | true :: κ, _ :: ds, od :: ε => (match od with | some d => d | none => .hole) :: finalL κ ds ε
  | false :: κ, d :: ds, _ :: ε => (if isFz d = true then d else .hole) :: finalL κ ds ε
  | [], d :: ds, _ :: ε => (if isFz d = true then d else .hole) :: finalL [] ds ε
  | _, _, _ => []
def keptV : List Bool → List V → List (Option V)
  | true :: κ, v :: vs => some v :: keptV κ vs
  | false :: κ, _ :: vs => none :: keptV κ vs
  | _, _ => []
theorem keptV_get : ∀ {κ : List Bool} {vs : List V} {i : Nat} {u : V}, (keptV κ vs)[i]? = some (some u) → κ[i]? = some true ∧ vs[i]? = some u
  | true :: κ, v :: vs, 0, u, h => by simp [keptV] at h; simp [h]
  | true :: κ, v :: vs, i + 1, u, h => by simpa using keptV_get (κ := κ) (vs := vs) (i := i) (u := u) (by simpa [keptV] using h)
  | false :: κ, v :: vs, 0, u, h => by simp [keptV] at h
  | false :: κ, v :: vs, i + 1, u, h => by simpa using keptV_get (κ := κ) (vs := vs) (i := i) (u := u) (by simpa [keptV] using h)
  | [], _, i, u, h => by simp [keptV] at h
  | true :: _, [], i, u, h => by simp [keptV] at h
  | false :: _, [], i, u, h => by simp [keptV] at h
section
variable {K : PySem.W.Frag} {G G' H H' : Hp}
theorem RpS.start : ∀ {ds : List D} {vs : List V} {F : List Addr} (m : Nat), RpL K G H ds vs F → RpS K G H (ds.map some ++ List.replicate m none) (vs.map some ++ List.replicate m none) F
  | [], vs, F, m, h => by
    obtain ⟨rfl, rfl⟩ := h
    simp only [List.map_nil, List.nil_append]
    induction m with
    | zero => exact ⟨rfl, rfl⟩
    | succ m ih => exact ⟨none, List.replicate m none, [], [], rfl, rfl, rfl, ih⟩
  | d :: ds, vs, F, m, h => by
    obtain ⟨v, vs', F1, F2, rfl, rfl, r, rs⟩ := h
    exact ⟨some v, vs'.map some ++ List.replicate m none, F1, F2, rfl, rfl, ⟨v, rfl, r⟩, RpS.start m rs⟩
/-- what is left of the arguments: a part of what the slots hold -/
theorem final_rp : ∀ {κ : List Bool} {ds : List D} {vs : List V} {F0 : List Addr} {ε : Ep} {σ : L2.St} {F : List Addr}, RpL K G H ds vs F0 → Sub G G' → RpS K G' H' ε σ F → vs.length ≤ ε.length →
    (∀ (j : Nat) v, (keptV κ vs)[j]? = some (some v) → σ[j]? = some (some v)) → ∃ F', RpL K G' H' (finalL κ ds ε) vs F' ∧ F'.Sublist F
  | κ, [], vs, F0, ε, σ, F, h, _, _, _, _ => by
    obtain ⟨rfl, rfl⟩ := h
    refine ⟨[], ?_, List.nil_sublist _⟩
    have : finalL κ [] ε = [] := by
      cases κ with
      | nil => rfl
      | cons c κ => cases c <;> rfl
    rw [this]
    exact ⟨rfl, rfl⟩
  | κ, d :: ds, vs, F0, [], σ, F, h, _, _, hl, _ => by
    obtain ⟨v, vs', F1, F2, rfl, rfl, r, rs⟩ := h
    simp at hl
  | κ, d :: ds, vs, F0, od :: ε, σ, F, h, hs, hS, hl, hk => by
    obtain ⟨v, vs', F1, F2, rfl, rfl, r, rs⟩ := h
    obtain ⟨ov, σ', A, B, rfl, rfl, ro, rS⟩ := hS
    have other : ∀ κ', (∀ (j : Nat) v, (keptV κ' vs')[j]? = some (some v) → σ'[j]? = some (some v)) → ∃ F', RpL K G' H' ((if isFz d = true then d else .hole) :: finalL κ' ds ε) (v :: vs') F' ∧ F'.Sublist (A ++ B) := fun κ' hk' => by
      obtain ⟨F', q, sl⟩ := final_rp (κ := κ') rs hs rS (by simpa using hl) hk'
      have rd : Rp K G' H' (if isFz d = true then d else .hole) v [] := by
        split
        · rename_i z
          have := r.fz z
          subst this
          exact r.mono hs fun _ z => nomatch z
        · exact rfl
      exact ⟨F', ⟨v, vs', [], F', rfl, rfl, rd, q⟩, sl.trans (List.sublist_append_right _ _)⟩
    cases κ with
    | nil => exact other [] fun j u e => by simp [keptV] at e
    | cons c κ =>
      cases c with
      | false => exact other κ fun j u e => by simpa using hk (j + 1) u (by simpa [keptV] using e)
      | true =>
        have h0 := hk 0 v (by simp [keptV])
        simp at h0
        subst h0
        obtain ⟨F', q, sl⟩ := final_rp (κ := κ) rs hs rS (by simpa using hl) fun j u e => by simpa using hk (j + 1) u (by simpa [keptV] using e)
        cases od with
        | none => exact ⟨F', ⟨v, vs', [], F', rfl, rfl, rfl, q⟩, sl.trans (List.sublist_append_right _ _)⟩
        | some d' =>
          obtain ⟨v', e', rd⟩ := ro
          cases e'
          exact ⟨A ++ F', ⟨v, vs', A, F', rfl, rfl, rd, q⟩, (List.Sublist.refl A).append sl⟩
end
/-- a body's end: the answer is held, the slots go -/
theorem SI.leave {K : PySem.W.Frag} {H G : Hp} {F : List Addr} {ds : List D} {vs : List V} {κ : List Bool} {σ : L2.St} {H' : Hp} {ε : Ep} {r : D} {v : V} (J : SIx K (callB H G F) G [] F [] H [] ds vs)
    (I : SI K { callB H G F with kv := keptV κ vs } σ H' ε [r] [v]) (hl : ds.length ≤ ε.length) : SI K (callB H G F) [] H' [] (finalL κ ds ε ++ [r]) (vs ++ [v]) := by
  obtain ⟨G', Fs, Ft, I⟩ := I
  obtain ⟨F', q, sl⟩ := final_rp (κ := κ) J.temps I.s0 I.slots (by rw [← J.lenT]; exact hl) I.kept
  have sb : (F' ++ Ft).Sublist (Fs ++ Ft) := sl.append (List.Sublist.refl _)
  exact ⟨G', [], F' ++ Ft, I.s0, I.sub, ⟨rfl, rfl⟩, q.append I.temps, by simpa using I.nd.sublist sb, fun a z => I.fr a (sb.subset (by simpa using z)), fun a z => I.own a (sb.subset (by simpa using z)), I.gn, I.keep, fun j u e => by simp [callB] at e⟩
section
variable {P : Program} {w : World} {K : PySem.W.Frag} {mg : Str → Option Value} {base : Heap} {x qual : Str} {params : Arguments} {body : List Stmt} {scope : Scope} {dvs : List V} {kws : List (Str × V)} {f : Addr} {fd : FuncData}
/-- the context of a def's body -/
abbrev bodyX (P : Program) (w : World) (K : PySem.W.Frag) (mg : Str → Option Value) (base : Heap) (N : List Str) (κ : List Bool) (qual : Str) (scope : Scope) (f : Addr) (cdv : Value) (A : Around) (outer : List Env) (s : Shared) (H : Hp) (E : XK) : Cv :=
  { cxOf (VL.CX P w) P w K mg base N qual scope f cdv A outer s H E with κ := κ }
/-- THE RULE: a def's body over trees -/
theorem fn_ok {N ps : List Str} {κ : List Bool} {k n : Nat} {vsp : VSp} {t : VTS} (F : FunD K x qual params body scope dvs kws f fd) (S : FnScope N ps scope) (hn : ps.length = n) (hN : n ≤ N.length)
    (hbody : ∀ (cdv : Value) (A : Around) (outer : List Env) (s : Shared) (H : Hp) (E : XK), Room k (A.deeper (envOfC qual scope s.heap.objs.size f cdv)) → VSs (bodyX P w K mg base N κ qual scope f cdv A outer s H E) body t)
    (hm : Mono vsp)
    (hsp : ∀ ds Q Ex, ds.length = n → vsp ds Q Ex → t { nx := fun ε => n ≤ ε.length ∧ Q .non (finalL κ ds ε), rt := fun r ε => n ≤ ε.length ∧ Q r (finalL κ ds ε), rx := fun cls row ε => n ≤ ε.length ∧ Ex cls row (finalL κ ds ε) } (startE N.length ds)) :
    FnOk P w K mg base (VL.CX P w) (k + 1) f fd ps (Lift K n vsp) := by
  refine fnD_ok F S (fun h => by rw [h.len, hn]) fun cdv A outer s H vs Q E hr h => ?_
  obtain ⟨G, F0, ds, J, l, q⟩ := h
  obtain ⟨t', h1, h2⟩ := (hbody cdv A outer s H E hr).ex
  refine ⟨t' (fun cls d _ H => E cls d H), h1 _ (takes_of rfl rfl rfl rfl), ?_⟩
  have hv : vs.length = n := by rw [← J.lenT, l]
  have I0 : SI K { callB H G F0 with kv := keptV κ vs } (L2.start N vs) H (startE N.length ds) [] [] := by
    have hs : RpS K G H (startE N.length ds) (L2.start N vs) F0 := by
      unfold startE L2.start
      rw [J.lenT]
      exact RpS.start _ J.temps
    refine ⟨G, F0, [], Sub.refl, J.sub, hs, ⟨rfl, rfl⟩, by simpa using J.nd, fun a z => J.fr a (by simpa using z), fun a z => J.own a (by simpa using z), J.gn, J.keep, fun j v e => ?_⟩
    obtain ⟨_, e2⟩ := keptV_get e
    unfold L2.start
    have hj := (List.getElem?_eq_some_iff.mp e2).1
    rw [List.getElem?_append_left (by simpa using hj), List.getElem?_map, e2]
    rfl
  refine h2 ⟨_, fun i u e => (keptV_get e).1⟩ _ H _ [] [] _ _ _ I0 (hsp ds _ _ l q) ⟨fun σ H1 ε J1 z => ?_, fun σ H1 ε d v J1 z => ?_, fun _ _ _ _ z => z.elim, fun _ _ _ _ z => z.elim⟩ fun cls dd σ H1 ε row v J1 e n z => ?_
  · exact z.2 _ H1 (SI.leave J (J1.push (d := .non) (v := .non) fun _ => ⟨rfl, rfl⟩) (by rw [l]; exact z.1))
  · exact z.2 v H1 (SI.leave J J1 (by rw [l]; exact z.1))
  · exact z.2 dd v H1 (SI.leave J J1 (by rw [l]; exact z.1)) e n
end
end VL
namespace VL
open PySem PySem.Spec PyProof.Rows L2 VL
mutual
def pd : D → PyData
  | .hole => .none
  | .val _ => .none
  | .non => .none
  | .bl b => .bool b
  | .int i => .int i
  | .str s => .str (toS s)
  | .ty _ => .none
  | .tup xs => .tuple (pdL xs)
  | .lst _ xs => .list (pdL xs)
  | .dK _ _ _ => .none
  | .dT _ _ _ => .none
  | .ins _ _ _ _ => .none
  | .pin _ _ => .none
  | .exn _ _ _ _ => .none
def pdL : List D → List PyData
  | [] => []
  | d :: ds => pd d :: pdL ds
end
mutual
/-- plain data, whose texts have good codes, nested to depth n at most -/
def okD : Nat → D → Bool
  | _, .non => true
  | _, .bl _ => true
  | _, .int _ => true
  | _, .str s => s.all fun c => decide (c < 1114112)
  | n + 1, .tup xs => okDL n xs
  | n + 1, .lst _ xs => okDL n xs
  | _, _ => false
def okDL : Nat → List D → Bool
  | _, [] => true
  | n, d :: ds => okD n d && okDL n ds
end
theorem okDL_all : ∀ (n : Nat) (ds : List D), okDL n ds = ds.all (okD n)
  | _, [] => by rw [okDL]; rfl
  | n, d :: ds => by rw [okDL, okDL_all n ds, List.all_cons]
mutual
theorem okD_shape : ∀ {n : Nat} {d : D}, okD n d = true → (pd d).canLay0 = true ∧ (pd d).depth ≤ n
  | n, .non, h => ⟨rfl, Nat.zero_le _⟩
  | n, .bl b, h => ⟨rfl, Nat.zero_le _⟩
  | n, .int i, h => ⟨rfl, Nat.zero_le _⟩
  | n, .str s, h => by
    refine ⟨?_, Nat.zero_le _⟩
    have h2 : (s.all fun c => decide (c < 1114112)) = true := by simpa [okD] using h
    show ((toS s).cps.all fun c => decide (c < 0x110000)) = true
    unfold toS
    simpa using h2
  | n + 1, .tup xs, h => by
    obtain ⟨h1, h2⟩ := okDL_shape (n := n) (ds := xs) (by simpa [okD] using h)
    exact ⟨h1, Nat.succ_le_succ h2⟩
  | n + 1, .lst m xs, h => by
    obtain ⟨h1, h2⟩ := okDL_shape (n := n) (ds := xs) (by simpa [okD] using h)
    exact ⟨h1, Nat.succ_le_succ h2⟩
  | 0, .tup xs, h => by simp [okD] at h
  | 0, .lst m xs, h => by simp [okD] at h
  | n, .hole, h => by simp [okD] at h
  | n, .val _, h => by simp [okD] at h
  | n, .ty _, h => by simp [okD] at h
  | n, .dK _ _ _, h => by simp [okD] at h
  | n, .dT _ _ _, h => by simp [okD] at h
  | n, .ins _ _ _ _, h => by simp [okD] at h
theorem okDL_shape : ∀ {n : Nat} {ds : List D}, okDL n ds = true → PyData.canLayAll0 (pdL ds) = true ∧ PyData.depthAll (pdL ds) ≤ n
  | n, [], _ => ⟨rfl, Nat.zero_le _⟩
  | n, d :: ds, h => by
    have h2 : (okD n d && okDL n ds) = true := by simpa [okDL] using h
    obtain ⟨h3, h4⟩ := Bool.and_eq_true_iff.mp h2
    obtain ⟨a1, a2⟩ := okD_shape h3
    obtain ⟨b1, b2⟩ := okDL_shape h4
    refine ⟨?_, ?_⟩
    · show ((pd d).canLay0 && PyData.canLayAll0 (pdL ds)) = true
      rw [a1, b1]; rfl
    · show max (pd d).depth (PyData.depthAll (pdL ds)) ≤ n
      omega
end
section
variable {K : PySem.W.Frag} {G H : Hp}
mutual
theorem Rp.dp (hs : Sub G H) : ∀ {n : Nat} {d : D} {v : V} {F : List Addr}, okD n d = true → Rp K G H d v F → Dp K H v (pd d)
  | _, .non, _, _, _, h => by rw [h.1]; exact .non
  | _, .bl b, _, _, _, h => by rw [h.1]; exact .bl b
  | _, .int i, _, _, _, h => by rw [h.1]; exact .int i
  | _, .str s, _, _, _, h => by rw [h.1]; exact .str _
  | n + 1, .tup xs, v, F, k, h => by
    obtain ⟨a, vs, rfl, s, r⟩ := h
    exact .tup (SqT.of (hs _ _ s)) (RpL.dp hs (n := n) (by simpa [okD] using k) r)
  | n + 1, .lst false xs, v, F, k, h => by
    obtain ⟨a, vs, rfl, s, _, r⟩ := h
    exact .lst (hs.sqL s) (RpL.dp hs (n := n) (by simpa [okD] using k) r)
  | n + 1, .lst true xs, v, F, k, h => by
    obtain ⟨a, vs, F', rfl, s, _, r⟩ := h
    exact .lst (SqL.of s) (RpL.dp hs (n := n) (by simpa [okD] using k) r)
  | 0, .tup xs, _, _, k, _ => by simp [okD] at k
  | 0, .lst m xs, _, _, k, _ => by simp [okD] at k
  | n, .hole, _, _, h, _ => by simp [okD] at h
  | n, .val _, _, _, h, _ => by simp [okD] at h
  | n, .ty _, _, _, h, _ => by simp [okD] at h
  | n, .dK _ _ _, _, _, h, _ => by simp [okD] at h
  | n, .dT _ _ _, _, _, h, _ => by simp [okD] at h
  | n, .ins _ _ _ _, _, _, h, _ => by simp [okD] at h
theorem RpL.dp (hs : Sub G H) : ∀ {n : Nat} {ds : List D} {vs : List V} {F : List Addr}, okDL n ds = true → RpL K G H ds vs F → DpAll K H vs (pdL ds)
  | _, [], _, _, _, h => by rw [h.1]; exact .nil
  | n, d :: ds, vs, F, k, h => by
    obtain ⟨v, vs', F1, F2, rfl, rfl, r, rs⟩ := h
    have h2 : (okD n d && okDL n ds) = true := by simpa [okDL] using k
    obtain ⟨h3, h4⟩ := Bool.and_eq_true_iff.mp h2
    exact .cons (Rp.dp hs h3 r) (RpL.dp hs h4 rs)
end
end
mutual
def deq : D → D → Bool
  | .non, .non => true
  | .bl a, .bl b => a == b
  | .bl a, .int j => (if a then 1 else 0) == j
  | .int i, .bl b => i == (if b then 1 else 0)
  | .int i, .int j => i == j
  | .str x, .str y => x == y
  | .lst _ xs, .lst _ ys => deqL xs ys
  | .tup xs, .tup ys => deqL xs ys
  | _, _ => false
def deqL : List D → List D → Bool
  | [], [] => true
  | x :: xs, y :: ys => deq x y && deqL xs ys
  | _, _ => false
end
theorem toS_beq (a b : Cs) : (toS a == toS b) = (a == b) := by
  rw [Bool.eq_iff_iff, beq_iff_eq, beq_iff_eq]
  exact ⟨toS_inj, fun e => by rw [e]⟩
mutual
theorem deq_pd : ∀ {n m : Nat} {x y : D}, okD n x = true → okD m y = true → PyData.eqv (pd x) (pd y) = deq x y
  | n, m, .non, y, hx, hy => by cases y <;> first | rfl | simp [okD] at hy
  | n, m, .bl a, y, hx, hy => by cases y <;> first | rfl | simp [okD] at hy
  | n, m, .int i, y, hx, hy => by cases y <;> first | rfl | simp [okD] at hy
  | n, m, .str s, y, hx, hy => by
    cases y <;> first | rfl | exact toS_beq _ _ | simp [okD] at hy
  | n + 1, m, .tup xs, y, hx, hy => by
    cases m with
    | zero => cases y <;> first | rfl | simp [okD] at hy
    | succ m =>
      cases y with
      | tup ys => exact deqL_pd (n := n) (m := m) (by simpa [okD] using hx) (by simpa [okD] using hy)
      | _ => first | rfl | simp [okD] at hy
  | n + 1, m, .lst q xs, y, hx, hy => by
    cases m with
    | zero => cases y <;> first | rfl | simp [okD] at hy
    | succ m =>
      cases y with
      | lst p ys => exact deqL_pd (n := n) (m := m) (by simpa [okD] using hx) (by simpa [okD] using hy)
      | _ => first | rfl | simp [okD] at hy
  | 0, m, .tup xs, y, hx, hy => by simp [okD] at hx
  | 0, m, .lst q xs, y, hx, hy => by simp [okD] at hx
  | n, m, .hole, y, hx, hy => by simp [okD] at hx
  | n, m, .val _, y, hx, hy => by simp [okD] at hx
  | n, m, .ty _, y, hx, hy => by simp [okD] at hx
  | n, m, .dK _ _ _, y, hx, hy => by simp [okD] at hx
  | n, m, .dT _ _ _, y, hx, hy => by simp [okD] at hx
  | n, m, .ins _ _ _ _, y, hx, hy => by simp [okD] at hx
theorem deqL_pd : ∀ {n m : Nat} {xs ys : List D}, okDL n xs = true → okDL m ys = true → PyData.eqvAll (pdL xs) (pdL ys) = deqL xs ys
  | n, m, [], [], _, _ => rfl
  | n, m, [], y :: ys, _, _ => rfl
  | n, m, x :: xs, [], _, _ => rfl
  | n, m, x :: xs, y :: ys, hx, hy => by
    obtain ⟨a1, a2⟩ := Bool.and_eq_true_iff.mp (show (okD n x && okDL n xs) = true by simpa [okDL] using hx)
    obtain ⟨b1, b2⟩ := Bool.and_eq_true_iff.mp (show (okD m y && okDL m ys) = true by simpa [okDL] using hy)
    show (PyData.eqv (pd x) (pd y) && PyData.eqvAll (pdL xs) (pdL ys)) = (deq x y && deqL xs ys)
    rw [deq_pd a1 b1, deqL_pd a2 b2]
end
/-- the pairs of plain values that == tells apart as values -/
def scalD : D → D → Bool
  | .non, .non => true | .non, .int _ => true | .int _, .non => true | .non, .bl _ => true | .bl _, .non => true | .non, .str _ => true | .str _, .non => true
  | .int _, .int _ => true | .bl _, .bl _ => true | .str _, .str _ => true
  | .int _, .str _ => true | .str _, .int _ => true | .bl _, .str _ => true | .str _, .bl _ => true
  | _, _ => false
theorem Rp.scal {K : PySem.W.Frag} {G H : Hp} {x y : D} {v w : V} {F1 F2 : List Addr} (h : scalD x y = true) (rx : Rp K G H x v F1) (ry : Rp K G H y w F2) : L2.scal v w = true ∧ decide (v = w) = deq x y := by
  cases x <;> cases y <;> first
    | (exfalso; revert h; simp [scalD]; done)
    | (obtain ⟨rfl, _⟩ := rx
       obtain ⟨rfl, _⟩ := ry
       refine ⟨rfl, ?_⟩
       first
         | rfl
         | exact decide_eq_false (fun z => nomatch z)
         | exact dec_int
         | exact dec_bl
         | exact dec_str.trans (toS_beq _ _))
/-- == and != of trees -/
def sEq : List D → (D → Prop) → Prop := fun ds Q => ∃ x y, ds = [x, y] ∧ (scalD x y = true ∨ (okD 64 x = true ∧ okD 64 y = true)) ∧ Q (.bl (deq x y))
def sNe : List D → (D → Prop) → Prop := fun ds Q => ∃ x y, ds = [x, y] ∧ (scalD x y = true ∨ (okD 64 x = true ∧ okD 64 y = true)) ∧ Q (.bl (!deq x y))
theorem RpL.two {K : PySem.W.Frag} {G H : Hp} {x y : D} {vs : List V} {F : List Addr} (h : RpL K G H [x, y] vs F) : ∃ v w F1 F2, vs = [v, w] ∧ Rp K G H x v F1 ∧ Rp K G H y w F2 := by
  obtain ⟨v, vs', F1, F2, rfl, rfl, r, w, vs2, F3, F4, rfl, rfl, r2, rfl, rfl⟩ := h
  exact ⟨v, w, F1, F3, rfl, r, r2⟩
theorem RpL.one' {K : PySem.W.Frag} {G H : Hp} {x : D} {vs : List V} {F : List Addr} (h : RpL K G H [x] vs F) : ∃ v, vs = [v] ∧ Rp K G H x v F := by
  obtain ⟨v, vs', F1, F2, rfl, rfl, r, rfl, rfl⟩ := h
  exact ⟨v, rfl, by rw [List.append_nil]; exact r⟩
theorem shp {d : D} (h : okD 64 d = true) : SeqAt.shaped (pd d) = true := by
  obtain ⟨a, b⟩ := okD_shape h
  unfold SeqAt.shaped
  rw [a, decide_eq_true b]
  rfl
theorem opn_eq {K : PySem.W.Frag} : OpN K (r2N fun x y H Q => rEq x y H Q ∨ rEqD K x y H Q) sEq := OpN.pure fun G H ds vs F Q Q' hs r h k => by
  obtain ⟨x, y, rfl, h1, q⟩ := h
  obtain ⟨v, w, F1, F2, rfl, rx, ry⟩ := r.two
  refine ⟨v, w, rfl, ?_⟩
  rcases h1 with h1 | ⟨h1, h2⟩
  · obtain ⟨e1, e2⟩ := Rp.scal h1 rx ry
    exact .inl ⟨e1, by rw [e2]; exact k (.bl (deq x y)) _ (fun _ _ _ => ⟨rfl, rfl⟩) q⟩
  · refine .inr ⟨pd x, pd y, rx.dp hs h1, ry.dp hs h2, shp h1, shp h2, ?_⟩
    rw [deq_pd h1 h2]
    exact k (.bl (deq x y)) _ (fun _ _ _ => ⟨rfl, rfl⟩) q
theorem opn_ne {K : PySem.W.Frag} : OpN K (r2N fun x y H Q => rNe x y H Q ∨ rNeD K x y H Q) sNe := OpN.pure fun G H ds vs F Q Q' hs r h k => by
  obtain ⟨x, y, rfl, h1, q⟩ := h
  obtain ⟨v, w, F1, F2, rfl, rx, ry⟩ := r.two
  refine ⟨v, w, rfl, ?_⟩
  rcases h1 with h1 | ⟨h1, h2⟩
  · obtain ⟨e1, e2⟩ := Rp.scal h1 rx ry
    exact .inl ⟨e1, by rw [e2]; exact k (.bl (!deq x y)) _ (fun _ _ _ => ⟨rfl, rfl⟩) q⟩
  · refine .inr ⟨pd x, pd y, rx.dp hs h1, ry.dp hs h2, shp h1, shp h2, ?_⟩
    rw [deq_pd h1 h2]
    exact k (.bl (!deq x y)) _ (fun _ _ _ => ⟨rfl, rfl⟩) q
theorem opr_eq {X : Cx} {k : Nat} (hr : Room k X.A) : OpR X (compareOp .Eq) (fun x y H Q => rEq x y H Q ∨ rEqD X.K x y H Q) := OpR.or op_eq (op_eqD hr.units)
theorem opr_ne {X : Cx} {k : Nat} (hr : Room k X.A) : OpR X (compareOp .NotEq) (fun x y H Q => rNe x y H Q ∨ rNeD X.K x y H Q) := OpR.or op_ne (op_neD hr.units)
def sI2 (f : Int → Int → D) : List D → (D → Prop) → Prop := fun ds Q => ∃ i j, ds = [.int i, .int j] ∧ Q (f i j)
theorem opn_i2 {K : PySem.W.Frag} {f : Int → Int → D} {g : Int → Int → V} (h : ∀ i j G H, Rp K G H (f i j) (g i j) []) : OpN K (r2N (rI0 g)) (sI2 f) := OpN.pure fun G H ds vs F Q Q' hs r q k => by
  obtain ⟨i, j, rfl, q⟩ := q
  obtain ⟨v, w, F1, F2, rfl, ⟨rfl, _⟩, ⟨rfl, _⟩⟩ := r.two
  exact ⟨_, _, rfl, i, j, rfl, rfl, k _ _ (fun G' H' _ => h i j G' H') q⟩
def sI2c (c : Int → Int → Prop) (f : Int → Int → D) : List D → (D → Prop) → Prop := fun ds Q => ∃ i j, ds = [.int i, .int j] ∧ c i j ∧ Q (f i j)
theorem opn_i2c {K : PySem.W.Frag} {c c' : Int → Int → Prop} {f : Int → Int → D} {g : Int → Int → V} (hc : ∀ i j, c i j → c' i j) (h : ∀ i j G H, c i j → Rp K G H (f i j) (g i j) []) : OpN K (r2N (rI c' g)) (sI2c c f) := OpN.pure fun G H ds vs F Q Q' hs r q k => by
  obtain ⟨i, j, rfl, hz, q⟩ := q
  obtain ⟨v, w, F1, F2, rfl, ⟨rfl, _⟩, ⟨rfl, _⟩⟩ := r.two
  exact ⟨_, _, rfl, i, j, rfl, rfl, hc _ _ hz, k _ _ (fun G' H' _ => h i j G' H' hz) q⟩
theorem opn_lt {K : PySem.W.Frag} : OpN K (r2N (rI0 fun i j => .bl (decide (i < j)))) (sI2 fun i j => .bl (decide (i < j))) := opn_i2 fun _ _ _ _ => ⟨rfl, rfl⟩
theorem opn_gt {K : PySem.W.Frag} : OpN K (r2N (rI0 fun i j => .bl (decide (j < i)))) (sI2 fun i j => .bl (decide (j < i))) := opn_i2 fun _ _ _ _ => ⟨rfl, rfl⟩
theorem opn_ge {K : PySem.W.Frag} : OpN K (r2N (rI0 fun i j => .bl (decide (j ≤ i)))) (sI2 fun i j => .bl (decide (j ≤ i))) := opn_i2 fun _ _ _ _ => ⟨rfl, rfl⟩
theorem opn_sub {K : PySem.W.Frag} : OpN K (r2N (rI0 fun i j => .int (i - j))) (sI2 fun i j => .int (i - j)) := opn_i2 fun _ _ _ _ => ⟨rfl, rfl⟩
theorem opn_and {K : PySem.W.Frag} : OpN K (r2N (rI0 fun i j => .int (Builtin.bitAnd i j))) (sI2 fun i j => .int (Builtin.bitAnd i j)) := opn_i2 fun _ _ _ _ => ⟨rfl, rfl⟩
theorem opn_xor {K : PySem.W.Frag} : OpN K (r2N (rI0 fun i j => .int (Builtin.bitXor i j))) (sI2 fun i j => .int (Builtin.bitXor i j)) := opn_i2 fun _ _ _ _ => ⟨rfl, rfl⟩
/-- % and // : by a number above 0 as Lean's own -/
def pmod (i j : Int) : Int := if 0 < j then i % j else i.fmod j
def pdiv (i j : Int) : Int := if 0 < j then i / j else i.fdiv j
theorem pmod_eq (i j : Int) : i.fmod j = pmod i j := by
  unfold pmod
  split
  · rw [Int.fmod_eq_emod_of_nonneg i (by omega)]
  · rfl
theorem pdiv_eq (i j : Int) : i.fdiv j = pdiv i j := by
  unfold pdiv
  split
  · rw [Int.fdiv_eq_ediv_of_nonneg i (by omega)]
  · rfl
theorem opn_mod {K : PySem.W.Frag} : OpN K (r2N (rI (fun _ j => j ≠ 0) fun i j => .int (i.fmod j))) (sI2c (fun _ j => j ≠ 0) fun i j => .int (pmod i j)) := opn_i2c (fun _ _ h => h) fun i j _ _ _ => ⟨by rw [pmod_eq], rfl⟩
/-- a divisor that is not 0, of less than 9,000 bits -/
def CDv (_ j : Int) : Prop := j ≠ 0 ∧ j.natAbs.log2 < 9000
theorem opr_div {X : Cx} : OpR X (binaryOp .FloorDiv) (rI CDv fun i j => .int (i.fdiv j)) := opI fun i j _ _ _ _ _ hc q => floordiv_int hc.1 q (.inl (PyProof.noPylong_of_log2 hc.2))
theorem opn_div {K : PySem.W.Frag} : OpN K (r2N (rI CDv fun i j => .int (i.fdiv j))) (sI2c CDv fun i j => .int (pdiv i j)) := opn_i2c (fun _ _ h => h) fun i j _ _ _ => ⟨by rw [pdiv_eq], rfl⟩
/-- a product: one factor below 2 ^ 64, or both below 2 ^ 60,000,000 -/
def CMl (i j : Int) : Prop := (i.natAbs < 2 ^ 64 ∨ j.natAbs < 2 ^ 64) ∨ CMulX i j
theorem ib64 {i : Int} (h : i.natAbs < 2 ^ 64) : Builtin.Int.intBits i ≤ 64 := PyProof.Rows.intBits_le h
theorem opr_mul {X : Cx} : OpR X (binaryOp .Mult) (rI CMl fun i j => .int (i * j)) := opI fun i j _ _ _ _ _ hc q => by
  refine mul_int q ?_
  rcases hc with (h | h) | h
  · exact IntMulOk.of_left (ib64 h)
  · exact IntMulOk.of_right (ib64 h)
  · exact h.ok
theorem opn_pow {K : PySem.W.Frag} : OpN K (r2N (rI CPow fun i j => .int (i ^ j.toNat))) (sI2c CPow fun i j => .int (i ^ j.toNat)) := opn_i2c (fun _ _ h => h) fun _ _ _ _ _ => ⟨rfl, rfl⟩
/-- a is None, a is not None -/
def isNon : D → Bool
  | .non => true
  | .val v => decide (v = .non)
  | .pin v _ => decide (v = .non)
  | _ => false
def sIsN : List D → (D → Prop) → Prop := fun ds Q => ∃ x, ds = [x, .non] ∧ x ≠ .hole ∧ Q (.bl (isNon x))
def sNotN : List D → (D → Prop) → Prop := fun ds Q => ∃ x, ds = [x, .non] ∧ x ≠ .hole ∧ Q (.bl (!isNon x))
theorem Rp.isNon {K : PySem.W.Frag} {G H : Hp} {x : D} {v : V} {F : List Addr} (h : x ≠ .hole) (r : Rp K G H x v F) : decide (v = .non) = VL.isNon x := by
  cases x with
  | hole => exact absurd rfl h
  | val u => obtain ⟨rfl, _⟩ := r; rfl
  | non => obtain ⟨rfl, _⟩ := r; rfl
  | bl b => obtain ⟨rfl, _⟩ := r; rfl
  | int b => obtain ⟨rfl, _⟩ := r; rfl
  | str b => obtain ⟨rfl, _⟩ := r; rfl
  | ty b => obtain ⟨rfl, _⟩ := r; rfl
  | tup xs => obtain ⟨a, vs, rfl, _⟩ := r; rfl
  | lst m xs => cases m <;> obtain ⟨a, vs, _⟩ := r <;> simp_all [VL.isNon]
  | dK m ks xs => cases m <;> obtain ⟨a, vs, _⟩ := r <;> simp_all [VL.isNon]
  | dT m ks xs => cases m <;> obtain ⟨a, vs, _⟩ := r <;> simp_all [VL.isNon]
  | ins m C fs xs => cases m <;> obtain ⟨a, dx, vs, _⟩ := r <;> simp_all [VL.isNon]
  | pin u d => obtain ⟨rfl, _⟩ := r; rfl
  | exn a dd c row => obtain ⟨⟨rfl, _⟩, _⟩ := r; rfl
theorem opn_notN {K : PySem.W.Frag} : OpN K (r2N fun x y H Q => y = .non ∧ Q (.bl (!decide (x = .non))) H) sNotN := OpN.pure fun G H ds vs F Q Q' hs r q k => by
  obtain ⟨x, rfl, hx, q⟩ := q
  obtain ⟨v, w, F1, F2, rfl, rx, ⟨rfl, _⟩⟩ := r.two
  exact ⟨_, _, rfl, rfl, by rw [rx.isNon hx]; exact k (.bl (!isNon x)) _ (fun _ _ _ => ⟨rfl, rfl⟩) q⟩
end VL
namespace VL
open PySem PySem.Spec PyProof.Rows L2 VL
inductive Stp where
  | ix (j : Nat)
  | fd (f : Cs)
deriving DecidableEq
def fdIx (fs : List Cs) (f : Cs) : Option Nat := fs.idxOf? f
/-- the node at a place, through nodes that are ours -/
def getP : D → List Stp → Option D
  | d, [] => some d
  | .lst true ds, .ix j :: p => match ds[j]? with | some d => getP d p | none => none
  | .tup ds, .ix j :: p => match ds[j]? with | some d => getP d p | none => none
  | .ins true _ fs ds, .fd f :: p => match fdIx fs f with
    | some j => (match ds[j]? with | some d => getP d p | none => none)
    | none => none
  | _, _ => none
def setP : D → List Stp → D → D
  | _, [], e => e
  | .lst true ds, .ix j :: p, e => match ds[j]? with | some d => .lst true (ds.set j (setP d p e)) | none => .lst true ds
  | .tup ds, .ix j :: p, e => match ds[j]? with | some d => .tup (ds.set j (setP d p e)) | none => .tup ds
  | .ins true C fs ds, .fd f :: p, e => match fdIx fs f with
    | some j => (match ds[j]? with | some d => .ins true C fs (ds.set j (setP d p e)) | none => .ins true C fs ds)
    | none => .ins true C fs ds
  | d, _, _ => d
theorem fzip_look : ∀ {fs : List Cs} {vs : List V} {f : Cs} {j : Nat} {v : V}, fdIx fs f = some j → vs[j]? = some v → fs.length = vs.length → (fzip fs vs).lookup (toS f) = some v
  | [], vs, f, j, v, h, _, _ => by simp [fdIx] at h
  | g :: fs, [], f, j, v, _, _, hl => by simp at hl
  | g :: fs, w :: vs, f, j, v, h, hv, hl => by
    unfold fdIx at h
    rw [List.idxOf?_cons] at h
    show ((toS g, w) :: fzip fs vs).lookup (toS f) = some v
    by_cases e : g = f
    · subst e
      simp at h
      subst h
      simp at hv
      subst hv
      simp [List.lookup]
    · have e1 : (g == f) = false := by simpa using e
      rw [e1] at h
      simp at h
      obtain ⟨k, hk, rfl⟩ := h
      have e2 : (toS f == toS g) = false := by
        rw [beq_eq_false_iff_ne]
        intro z
        exact e (toS_inj z.symm)
      simp only [List.lookup, e2]
      exact fzip_look (fs := fs) hk (by simpa using hv) (by simpa using hl)
section
variable {K : PySem.W.Frag}
/-- at v0, along p, one comes to v -/
inductive AtP (H : Hp) : D → V → List Stp → V → Prop where
  | nil {d v} : AtP H d v [] v
  | lst {ds d a vs j p w v} : H a = some (.lst vs) → ds[j]? = some d → ds.length = vs.length → vs[j]? = some w → AtP H d w p v → AtP H (.lst true ds) (.ref a) (.ix j :: p) v
  | tup {ds d a vs j p w v} : H a = some (.tup vs) → ds[j]? = some d → ds.length = vs.length → vs[j]? = some w → AtP H d w p v → AtP H (.tup ds) (.ref a) (.ix j :: p) v
  | ins {C C' fs ds d a dx vs j f p w v} : H a = some (.ins C' dx (fzip fs vs)) → fdIx fs f = some j → ds[j]? = some d → fs.length = vs.length → vs[j]? = some w → AtP H d w p v → AtP H (.ins true C fs ds) (.ref a) (.fd f :: p) v
theorem AtP.grow {H H' : Hp} (h : Sub H H') {d v p u} (a : AtP H d v p u) : AtP H' d v p u := by
  induction a with
  | nil => exact .nil
  | lst e1 e2 e3 e4 _ ih => exact .lst (h _ _ e1) e2 e3 e4 ih
  | tup e1 e2 e3 e4 _ ih => exact .tup (h _ _ e1) e2 e3 e4 ih
  | ins e1 e2 e3 e4 e5 _ ih => exact .ins (h _ _ e1) e2 e3 e4 e5 ih
theorem fzip_inj : ∀ {fs : List Cs} {vs ws : List V}, fs.length = vs.length → fs.length = ws.length → fzip fs vs = fzip fs ws → vs = ws
  | [], [], [], _, _, _ => rfl
  | f :: fs, v :: vs, w :: ws, h1, h2, e => by
    have e2 : (toS f, v) :: fzip fs vs = (toS f, w) :: fzip fs ws := e
    obtain ⟨a, c⟩ := List.cons.inj e2
    rw [(Prod.mk.inj a).2, fzip_inj (Nat.succ.inj h1) (Nat.succ.inj h2) c]
  | [], _ :: _, _, h1, _, _ => by cases h1
  | [], [], _ :: _, _, h2, _ => by cases h2
  | _ :: _, [], _, h1, _, _ => by cases h1
  | _ :: _, _ :: _, [], _, h2, _ => by cases h2
theorem AtP.uniq {H : Hp} : ∀ {p : List Stp} {d v u u'}, AtP H d v p u → AtP H d v p u' → u = u'
  | [], _, _, _, _, .nil, .nil => rfl
  | .ix j :: p, _, _, u, u', .lst a1 a2 a3 a4 a5, .lst b1 b2 b3 b4 b5 => by
    rw [a1] at b1
    cases b1
    rw [a4] at b4
    cases b4
    rw [a2] at b2
    cases b2
    exact a5.uniq b5
  | .ix j :: p, _, _, u, u', .tup a1 a2 a3 a4 a5, .tup b1 b2 b3 b4 b5 => by
    rw [a1] at b1
    cases b1
    rw [a4] at b4
    cases b4
    rw [a2] at b2
    cases b2
    exact a5.uniq b5
  | .fd f :: p, _, _, u, u', .ins a1 a2 a3 a4 a5 a6, .ins b1 b2 b3 b4 b5 b6 => by
    rw [a1] at b1
    have e := HO.ins.inj (Option.some.inj b1)
    have ev := fzip_inj a4 b4 e.2.2
    subst ev
    rw [a2] at b2
    cases b2
    rw [a5] at b5
    cases b5
    rw [a3] at b3
    cases b3
    exact a6.uniq b6
/-- a place within a tree: what stands there, and what stands in its stead -/
theorem Rp.focusP {G H : Hp} (su : Sub G H) : ∀ {p : List Stp} {d0 : D} {v0 : V} {F : List Addr} {d : D}, Rp K G H d0 v0 F → getP d0 p = some d →
    ∃ v A B C, F = A ++ B ++ C ∧ Rp K G H d v B ∧ AtP H d0 v0 p v ∧ ∀ (G' H' : Hp) (d' : D) (B' : List Addr), Sub G G' → (∀ a ∈ A ++ C, H' a = H a) → (B ≠ [] ∨ B' = []) → Rp K G' H' d' v B' → Rp K G' H' (setP d0 p d') v0 (A ++ B' ++ C)
  | [], d0, v0, F, d, h, e => by
    have e : some d0 = some d := by cases d0 <;> exact e
    cases e
    refine ⟨v0, [], F, [], by simp, h, .nil, fun G' H' d' B' _ _ _ r => ?_⟩
    have : setP d0 [] d' = d' := by cases d0 <;> rfl
    rw [this]
    simpa using r
  | .ix j :: p, .lst true ds, v0, F, d, h, e => by
    obtain ⟨a, vs, F', rfl, s, rfl, r⟩ := h
    have e : (match ds[j]? with | some d => getP d p | none => none) = some d := e
    cases hj : ds[j]? with
    | none => rw [hj] at e; cases e
    | some c =>
      rw [hj] at e
      obtain ⟨w, A, B, C, hw, rfl, rw_, back⟩ := r.focus hj
      obtain ⟨v, A2, B2, C2, rfl, rv, at_, back2⟩ := Rp.focusP su rw_ e
      refine ⟨v, a :: A ++ A2, B2, C2 ++ C, by simp only [List.append_assoc, List.cons_append], rv, .lst s hj r.len hw at_, fun G' H' d' B' g k z r' => ?_⟩
      have q := back2 G' H' d' B' g (fun a z => k a (by simp only [List.mem_append, List.mem_cons] at z ⊢; grind)) z r'
      have q2 := back G' H' _ w _ g (fun a z => k a (by simp only [List.mem_append, List.mem_cons] at z ⊢; grind)) q
      show Rp K G' H' (match ds[j]? with | some d => .lst true (ds.set j (setP d p d')) | none => .lst true ds) _ _
      rw [hj]
      rw [setSelf hw] at q2
      exact ⟨a, vs, A ++ (A2 ++ B' ++ C2) ++ C, rfl, (k a (by simp)).trans s, by simp only [List.append_assoc, List.cons_append], q2⟩
  | .fd f :: p, .ins true C0 fs ds, v0, F, d, h, e => by
    obtain ⟨a, dx, vs, F', rfl, s, rfl, l, r⟩ := h
    have e : (match fdIx fs f with | some j => (match ds[j]? with | some d => getP d p | none => none) | none => none) = some d := e
    cases hf : fdIx fs f with
    | none => rw [hf] at e; cases e
    | some j =>
      rw [hf] at e
      have e : (match ds[j]? with | some d => getP d p | none => none) = some d := e
      cases hj : ds[j]? with
      | none => rw [hj] at e; cases e
      | some c =>
        rw [hj] at e
        obtain ⟨w, A, B, C, hw, rfl, rw_, back⟩ := r.focus hj
        obtain ⟨v, A2, B2, C2, rfl, rv, at_, back2⟩ := Rp.focusP su rw_ e
        refine ⟨v, a :: A ++ A2, B2, C2 ++ C, by simp only [List.append_assoc, List.cons_append], rv, .ins s hf hj (l.trans r.len) hw at_, fun G' H' d' B' g k z r' => ?_⟩
        have q := back2 G' H' d' B' g (fun a z => k a (by simp only [List.mem_append, List.mem_cons] at z ⊢; grind)) z r'
        have q2 := back G' H' _ w _ g (fun a z => k a (by simp only [List.mem_append, List.mem_cons] at z ⊢; grind)) q
        show Rp K G' H' (match fdIx fs f with | some j => (match ds[j]? with | some d => .ins true C0 fs (ds.set j (setP d p d')) | none => .ins true C0 fs ds) | none => .ins true C0 fs ds) _ _
        rw [hf]
        show Rp K G' H' (match ds[j]? with | some d => .ins true C0 fs (ds.set j (setP d p d')) | none => .ins true C0 fs ds) _ _
        rw [hj]
        rw [setSelf hw] at q2
        exact ⟨a, dx, vs, A ++ (A2 ++ B' ++ C2) ++ C, rfl, (k a (by simp)).trans s, by simp only [List.append_assoc, List.cons_append], by simpa using l, q2⟩
  | .ix j :: p, .tup ds, v0, F, d, h, e => by
    obtain ⟨a, vs, rfl, s, r⟩ := h
    have e : (match ds[j]? with | some d => getP d p | none => none) = some d := e
    cases hj : ds[j]? with
    | none => rw [hj] at e; cases e
    | some c =>
      rw [hj] at e
      obtain ⟨w, A, B, C, hw, rfl, rw_, back⟩ := r.focus hj
      obtain ⟨v, A2, B2, C2, rfl, rv, at_, back2⟩ := Rp.focusP su rw_ e
      refine ⟨v, A ++ A2, B2, C2 ++ C, by simp only [List.append_assoc], rv, .tup (su _ _ s) hj r.len hw at_, fun G' H' d' B' g k z r' => ?_⟩
      have q := back2 G' H' d' B' g (fun a z => k a (by simp only [List.mem_append] at z ⊢; grind)) z r'
      have q2 := back G' H' _ w _ g (fun a z => k a (by simp only [List.mem_append] at z ⊢; grind)) q
      show Rp K G' H' (match ds[j]? with | some d => .tup (ds.set j (setP d p d')) | none => .tup ds) _ _
      rw [hj]
      rw [setSelf hw] at q2
      have ea : A ++ A2 ++ B' ++ (C2 ++ C) = A ++ (A2 ++ B' ++ C2) ++ C := by simp only [List.append_assoc]
      rw [ea]
      exact ⟨a, vs, rfl, g _ _ s, q2⟩
  | .fd _ :: p, .tup ds, v0, F, d, h, e => by cases e
  | s :: p, .lst false ds, v0, F, d, h, e => by cases s <;> cases e
  | s :: p, .ins false C fs ds, v0, F, d, h, e => by cases s <;> cases e
  | .fd _ :: p, .lst true ds, v0, F, d, h, e => by cases e
  | .ix _ :: p, .ins true C fs ds, v0, F, d, h, e => by cases e
  | s :: p, .hole, v0, F, d, h, e => by cases s <;> cases e
  | s :: p, .val _, v0, F, d, h, e => by cases s <;> cases e
  | s :: p, .non, v0, F, d, h, e => by cases s <;> cases e
  | s :: p, .bl _, v0, F, d, h, e => by cases s <;> cases e
  | s :: p, .int _, v0, F, d, h, e => by cases s <;> cases e
  | s :: p, .str _, v0, F, d, h, e => by cases s <;> cases e
  | s :: p, .ty _, v0, F, d, h, e => by cases s <;> cases e
  | s :: p, .pin _ _, v0, F, d, h, e => by cases s <;> cases e
  | s :: p, .exn _ _ _ _, v0, F, d, h, e => by cases s <;> cases e
  | s :: p, .dK _ _ _, v0, F, d, h, e => by cases s <;> cases e
  | s :: p, .dT _ _ _, v0, F, d, h, e => by cases s <;> cases e
end
section
variable {K : PySem.W.Frag} {b : Bs} {σ : L2.St} {H : Hp} {ε : Ep} {T R : List D} {Tv Rv : List V}
/-- the node at a place of slot i, and what stands in its stead, made of it and of what is held last -/
theorem SI.focus (I : SI K b σ H ε (T ++ R) (Tv ++ Rv)) (hl : T.length = Tv.length) {i : Nat} {d0 d : D} {p : List Stp} (e : ε[i]? = some (some d0)) (g : getP d0 p = some d) :
    ∃ v0 v G B FR, σ[i]? = some (some v0) ∧ AtP H d0 v0 p v ∧ Sub G H ∧ Rp K G H d v B ∧ RpL K G H R Rv FR ∧ (B ++ FR).Nodup ∧ (∀ a ∈ B ++ FR, G a = none) ∧
      ∀ H' d' B' res w Fr, (∀ a, a ∉ B → H' a = H a) → Rp K G H' d' v B' → Rp K G H' res w Fr → (B ≠ [] ∨ B' = []) → (∃ L, (B' ++ (Fr ++ L)).Perm (B ++ FR)) → SI K b σ H' (ε.set i (some (setP d0 p d'))) (T ++ [res]) (Tv ++ [w]) := by
  obtain ⟨G, F, Ft, J⟩ := I
  obtain ⟨F1, FR, rfl, r1, r2⟩ := J.temps.split2 hl
  obtain ⟨ov, A0, B0, C0, hs, rfl, ro, back⟩ := J.slots.focus e
  obtain ⟨v0, rfl, r0⟩ := ro
  obtain ⟨v, A, B, C, rfl, rv, at_, back2⟩ := r0.focusP J.sub g
  have pm : (A0 ++ (A ++ B ++ C) ++ C0 ++ (F1 ++ FR)).Perm ((A0 ++ A ++ C ++ C0 ++ F1) ++ (B ++ FR)) := by
    apply List.perm_iff_count.mpr
    intro a
    simp only [List.count_append]
    omega
  have nd := pm.nodup_iff.mp J.nd
  obtain ⟨nd1, nd2, dj⟩ := List.nodup_append.mp nd
  have mem : ∀ a, a ∈ (A0 ++ A ++ C ++ C0 ++ F1) ++ (B ++ FR) → a ∈ A0 ++ (A ++ B ++ C) ++ C0 ++ (F1 ++ FR) := fun a z => pm.mem_iff.mpr z
  refine ⟨v0, v, G, B, FR, hs, at_, J.sub, rv, r2, nd2, fun a z => J.fr a (mem a (List.mem_append_right _ z)), fun H' d' B' res w Fr kp rd rres z sp => ?_⟩
  have out : ∀ a ∈ A0 ++ A ++ C ++ C0 ++ F1, H' a = H a := fun a z => kp a fun hb => dj a z a (List.mem_append_left _ hb) rfl
  have sH : Sub G H' := fun a o q => by
    have : a ∉ B := fun hb => by
      rw [J.fr a (mem a (List.mem_append_right _ (List.mem_append_left _ hb)))] at q
      cases q
    rw [kp a this]
    exact J.sub a o q
  have q1 := back2 G H' d' B' Sub.refl (fun a z => out a (by simp only [List.mem_append] at z ⊢; grind)) z rd
  have q2 := back G H' (some (setP d0 p d')) (some v0) (A ++ B' ++ C) Sub.refl (fun a z => out a (by simp only [List.mem_append] at z ⊢; grind)) ⟨v0, rfl, q1⟩
  rw [setSelf hs] at q2
  obtain ⟨L, sp⟩ := sp
  have pm2 : ((A0 ++ (A ++ B' ++ C) ++ C0 ++ (F1 ++ Fr)) ++ L).Perm (A0 ++ (A ++ B ++ C) ++ C0 ++ (F1 ++ FR)) := by
    apply List.perm_iff_count.mpr
    intro a
    have := sp.count_eq a
    simp only [List.count_append] at this ⊢
    omega
  have sb : ∀ a, a ∈ A0 ++ (A ++ B' ++ C) ++ C0 ++ (F1 ++ Fr) → a ∈ A0 ++ (A ++ B ++ C) ++ C0 ++ (F1 ++ FR) := fun a z => pm2.mem_iff.mp (List.mem_append_left _ z)
  refine ⟨G, A0 ++ (A ++ B' ++ C) ++ C0, F1 ++ Fr, J.s0, sH, q2, (r1.mono Sub.refl fun a z => out a (List.mem_append_right _ z)).append (RpL.one.mpr rres), (List.nodup_append.mp (pm2.nodup_iff.mpr J.nd)).1, fun a z => J.fr a (sb a z), fun a z => J.own a (sb a z), J.gn, fun a o q n => ?_, J.kept⟩
  · have : a ∉ B := fun hb => by
      rcases J.own a (mem a (List.mem_append_right _ (List.mem_append_left _ hb))) with h | h
      · exact n h
      · rw [q] at h; cases h
    rw [kp a this]
    exact J.keep a o q n
end
end VL
namespace VL
open PySem PySem.Spec PyProof.Rows L2 VL
/-- the place of a key -/
def kIx {α : Type} [DecidableEq α] : List α → α → Option Nat
  | [], _ => none
  | a :: ks, k => if a = k then some 0 else (kIx ks k).map (· + 1)
section
variable {κ : Type} [DecidableEq κ] {α : Type} [DecidableEq α] {f : α → κ}
theorem kIx_lt : ∀ {ks : List α} {k : α} {j : Nat}, kIx ks k = some j → j < ks.length
  | [], _, _, h => by cases h
  | a :: ks, k, j, h => by
    unfold kIx at h
    split at h
    · cases h; simp
    · cases e : kIx ks k with
      | none => rw [e] at h; cases h
      | some i =>
        rw [e] at h
        cases h
        have := kIx_lt e
        simp only [List.length_cons]
        omega
theorem map_zip_set (hf : ∀ a b, f a = f b → a = b) : ∀ {ks : List α} {vs : List V} {k : α} {y : V} {j : Nat}, ks.Nodup → ks.length = vs.length → kIx ks k = some j →
    ((ks.map f).zip vs).map (fun kv => if kv.1 = f k then (kv.1, y) else kv) = (ks.map f).zip (vs.set j y)
  | [], _, k, y, j, _, _, e => by cases e
  | _ :: _, [], k, y, j, _, h, _ => by cases h
  | a :: ks, v :: vs, k, y, j, nd, h, e => by
    obtain ⟨n1, n2⟩ := List.nodup_cons.mp nd
    unfold kIx at e
    by_cases q : a = k
    · subst q
      rw [if_pos rfl] at e
      cases e
      simp only [List.map_cons, List.zip_cons_cons, if_true, List.set_cons_zero, List.cons.injEq, true_and]
      have : ∀ p ∈ (ks.map f).zip vs, (if p.1 = f a then (p.1, y) else p) = p := fun p hp => by
        have h1 := (List.of_mem_zip hp).1
        obtain ⟨b, hb, e2⟩ := List.mem_map.mp h1
        rw [if_neg]
        intro z
        rw [← e2] at z
        exact n1 (hf _ _ z ▸ hb)
      rw [List.map_congr_left this, List.map_id']
    · rw [if_neg q] at e
      cases e1 : kIx ks k with
      | none => rw [e1] at e; cases e
      | some i =>
        rw [e1] at e
        cases e
        simp only [List.map_cons, List.zip_cons_cons, List.set_cons_succ, List.cons.injEq]
        refine ⟨if_neg fun z => q (hf _ _ z), ?_⟩
        exact map_zip_set hf n2 (Nat.succ.inj h) e1
theorem valV_zip (hf : ∀ a b, f a = f b → a = b) : ∀ {ks : List α} {vs : List V} {k : α}, ks.length = vs.length → valV ((ks.map f).zip vs) (f k) = (kIx ks k).bind fun j => vs[j]?
  | [], [], _, _ => rfl
  | a :: ks, v :: vs, k, h => by
    unfold kIx
    show valV ((f a, v) :: (ks.map f).zip vs) (f k) = _
    by_cases e : a = k
    · subst e
      rw [valV_pos rfl, if_pos rfl]
      rfl
    · rw [valV_neg fun z => e (hf _ _ z), valV_zip hf (Nat.succ.inj h), if_neg e]
      cases kIx ks k <;> simp
  | [], _ :: _, _, h => by cases h
  | _ :: _, [], _, h => by cases h
theorem zip_any (hf : ∀ a b, f a = f b → a = b) {ks : List α} {vs : List V} {k : α} (h : ks.length = vs.length) : (((ks.map f).zip vs).any fun kv => decide (kv.1 = f k)) = (kIx ks k).isSome := by
  rw [valV_any, valV_zip hf h]
  cases e : kIx ks k with
  | none => rfl
  | some j =>
    have : j < vs.length := by
      rw [← h]
      exact kIx_lt e
    simp [this]
theorem putK_zip (hf : ∀ a b, f a = f b → a = b) : ∀ {ks : List α} {vs : List V} {k : α} {y : V}, ks.Nodup → ks.length = vs.length →
    putK ((ks.map f).zip vs) (f k) y = match kIx ks k with | some j => (ks.map f).zip (vs.set j y) | none => ((ks ++ [k]).map f).zip (vs ++ [y]) := by
  intro ks vs k y nd hl
  unfold putK
  rw [zip_any hf hl]
  cases e : kIx ks k with
  | none =>
    simp only [Option.isSome_none, Bool.false_eq_true, if_false]
    rw [List.map_append, List.zip_append (by simpa using hl)]
    rfl
  | some j =>
    simp only [Option.isSome_some, if_true]
    exact map_zip_set hf nd hl e
end
def tkc (k : List Kc) : List Key := k.map kc
theorem tkc_inj : ∀ {a b : List Kc}, tkc a = tkc b → a = b
  | [], [], _ => rfl
  | x :: a, y :: b, h => by
    obtain ⟨h1, h2⟩ := List.cons.inj (show kc x :: tkc a = kc y :: tkc b from h)
    rw [kc_inj h1, tkc_inj h2]
  | [], _ :: _, h => by cases h
  | _ :: _, [], h => by cases h
theorem kzip_val {ks : List Kc} {vs : List V} {k : Kc} (h : ks.length = vs.length) : valV (kzip ks vs) (kc k) = (kIx ks k).bind fun j => vs[j]? := valV_zip (fun _ _ => kc_inj) h
theorem tzip_val {ks : List (List Kc)} {vs : List V} {k : List Kc} (h : ks.length = vs.length) : valV (tzip ks vs) (tkc k) = (kIx ks k).bind fun j => vs[j]? := valV_zip (f := tkc) (fun _ _ => tkc_inj) h
theorem kzip_put {ks : List Kc} {vs : List V} {k : Kc} {y : V} (nd : ks.Nodup) (h : ks.length = vs.length) : putK (kzip ks vs) (kc k) y = match kIx ks k with | some j => kzip ks (vs.set j y) | none => kzip (ks ++ [k]) (vs ++ [y]) := putK_zip (fun _ _ => kc_inj) nd h
theorem tzip_put {ks : List (List Kc)} {vs : List V} {k : List Kc} {y : V} (nd : ks.Nodup) (h : ks.length = vs.length) : putK (tzip ks vs) (tkc k) y = match kIx ks k with | some j => tzip ks (vs.set j y) | none => tzip (ks ++ [k]) (vs ++ [y]) := putK_zip (f := tkc) (fun _ _ => tkc_inj) nd h
/-- a tree as a key -/
def keyD : D → Option Kc
  | .int i => some (.inl i)
  | .str s => some (.inr s)
  | _ => none
def keyL : List D → Option (List Kc)
  | [] => some []
  | d :: ds => (keyD d).bind fun k => (keyL ds).map (k :: ·)
def keyT : D → Option (List Kc)
  | .tup ds => keyL ds
  | _ => none
section
variable {K : PySem.W.Frag} {G H : Hp}
theorem Rp.keyD {d : D} {v : V} {F : List Addr} {k : Kc} (r : Rp K G H d v F) (h : VL.keyD d = some k) : v = kV (kc k) ∧ F = [] := by
  cases d <;> simp only [VL.keyD, reduceCtorEq, Option.some.injEq] at h
  · subst h; exact r
  · subst h; exact r
theorem RpL.keyL : ∀ {ds : List D} {vs : List V} {F : List Addr} {ks : List Kc}, RpL K G H ds vs F → VL.keyL ds = some ks → vs = (tkc ks).map kV ∧ F = []
  | [], vs, F, ks, r, h => by
    obtain ⟨rfl, rfl⟩ := r
    cases h
    exact ⟨rfl, rfl⟩
  | d :: ds, vs, F, ks, r, h => by
    obtain ⟨v, vs', F1, F2, rfl, rfl, rd, rs⟩ := r
    have h : ((VL.keyD d).bind fun k => (VL.keyL ds).map (k :: ·)) = some ks := h
    cases e : VL.keyD d with
    | none => rw [e] at h; cases h
    | some k =>
      rw [e] at h
      cases e2 : VL.keyL ds with
      | none => rw [e2] at h; cases h
      | some ks' =>
        rw [e2] at h
        cases h
        obtain ⟨rfl, rfl⟩ := rd.keyD e
        obtain ⟨rfl, rfl⟩ := RpL.keyL rs e2
        exact ⟨rfl, rfl⟩
theorem Rp.keyT (hs : Sub G H) {d : D} {v : V} {F : List Addr} {k : List Kc} (r : Rp K G H d v F) (h : VL.keyT d = some k) : ∃ b, v = .ref b ∧ H b = some (.tup ((tkc k).map kV)) ∧ F = [] := by
  cases d with
  | tup ds =>
    obtain ⟨a, vs, rfl, s, rs⟩ := r
    obtain ⟨rfl, rfl⟩ := rs.keyL h
    exact ⟨a, rfl, hs _ _ s, rfl⟩
  | _ => cases h
end
/-- what a container holds under a key; behind a store -/
def getD : D → D → Option D
  | .lst _ ds, .int k => (ixN ds.length k).bind fun j => ds[j]?
  | .pin _ (.lst _ ds), .int k => (ixN ds.length k).bind fun j => ds[j]?
  | .tup ds, .int k => (ixN ds.length k).bind fun j => ds[j]?
  | .dK _ ks ds, k => (keyD k).bind fun k => (kIx ks k).bind fun j => ds[j]?
  | .dT _ ks ds, k => (keyT k).bind fun k => (kIx ks k).bind fun j => ds[j]?
  | _, _ => none
def putD : D → D → D → Option D
  | .lst true ds, .int k, y => (ixN ds.length k).map fun j => .lst true (ds.set j y)
  | .pin u (.lst true ds), .int k, y => (ixN ds.length k).map fun j => .pin u (.lst true (ds.set j y))
  | .dK true ks ds, k, y => if ds.length < 1000000 then (keyD k).map fun k => match kIx ks k with | some j => .dK true ks (ds.set j y) | none => .dK true (ks ++ [k]) (ds ++ [y]) else none
  | .dT true ks ds, k, y => if ds.length < 1000000 then (keyT k).map fun k => match kIx ks k with | some j => .dT true ks (ds.set j y) | none => .dT true (ks ++ [k]) (ds ++ [y]) else none
  | _, _, _ => none
section
variable {X : Cv}
structure VQ (X : Cv) (e : Expr) (t : VTE) : Prop where
  ex : ∃ t' : WX → TE, (∀ W, Takes X.toCx W → PE X.toCx e (t' W)) ∧ ∀ (b : Bx X) σ H ε T Tv W N (Q : D → Ep → Prop) (Q' : VK), SI X.K b.1 σ H ε T Tv → t N ε Q →
    (∀ d v ε' H', Sub H H' → SI X.K b.1 σ H' ε' (T ++ [d]) (Tv ++ [v]) → Q d ε' → Q' v H') → XL X.K b.1 T Tv W N → t' W σ H Q'
structure VAQ (X : Cv) (es : List Expr) (t : VTA) : Prop where
  ex : ∃ t' : WX → TA, (∀ W, Takes X.toCx W → PA X.toCx es (t' W)) ∧ ∀ (b : Bx X) σ H ε T Tv W N (Q : List D → Ep → Prop) (Q' : List V → Hp → Prop), SI X.K b.1 σ H ε T Tv → t N ε Q →
    (∀ ds vs ε' H', Sub H H' → SI X.K b.1 σ H' ε' (T ++ ds) (Tv ++ vs) → ds.length = vs.length → Q ds ε' → Q' vs H') → XL X.K b.1 T Tv W N → t' W σ H Q'
theorem vq_var {i : Nat} {x : Str} {pos : Pos} (hN : X.N[i]? = some x) (hv : Vis X.env.scope x) (hd : (x == ("__debug__" : Str)) = false := by decide) (hcd : (x == ("__classdict__" : Str)) = false := by decide) : VQ X (.Name x pos) (vVar i) := by
  refine ⟨fun _ => tVar i, fun _ _ => pe_var hN hv hd hcd, fun b σ H ε T Tv W N Q Q' I h k _ => ?_⟩
  obtain ⟨d, e, z, q⟩ := h
  obtain ⟨v, hs, J⟩ := I.var e z
  exact ⟨v, hs, k d v ε H Sub.refl J q⟩
theorem vq_of {e : Expr} {v : V} {d : D} (h : PE X.toCx e (tC v)) (r : ∀ G H, Rp X.K G H d v []) : VQ X e (vC d) :=
  ⟨fun _ => tC v, fun _ _ => h, fun b σ H ε T Tv W N Q Q' I q k _ => k d v ε H Sub.refl (I.push fun G => r G H) q⟩
theorem vq_str {s : Cs} {x : Str} {j pos} (h : x.cps.toList = s) : VQ X (.Constant (.str x) j pos) (vC (.str s)) := vq_of pe_str fun _ _ => ⟨by rw [← h, toS_cps], rfl⟩
theorem vaq_nil : VAQ X [] vaNil := ⟨fun _ => tNil, fun _ _ => pa_nil, fun b σ H ε T Tv W N Q Q' I h k _ => k [] [] ε H Sub.refl (by simpa using I) rfl h⟩
theorem vaq_cons {e : Expr} {es : List Expr} {t : VTE} {u : VTA} (h : VQ X e t) (k : VAQ X es u) (hs : starEach (e :: es) X.env = (false, eval e X.env) :: starEach es X.env := by rfl) : VAQ X (e :: es) (vaCons t u) := by
  obtain ⟨t', h1, h2⟩ := h.ex
  obtain ⟨u', k1, k2⟩ := k.ex
  refine ⟨fun W => tCons (t' W) (u' W), fun W tk => pa_cons (h1 W tk) (k1 W tk) hs, fun b σ H ε T Tv W N Q Q' I q z x => ?_⟩
  refine h2 b σ H ε T Tv W N _ _ I q (fun d v ε1 H1 s1 J q1 => ?_) x
  refine k2 b σ H1 ε1 (T ++ [d]) (Tv ++ [v]) W N _ _ J q1 (fun ds vs ε2 H2 s2 J2 l q2 => ?_) (x.more I.lenT rfl)
  exact z (d :: ds) (v :: vs) ε2 H2 (s1.trans s2) (by simpa only [List.append_assoc, List.cons_append, List.nil_append] using J2) (by simp [l]) q2
theorem vq_tup {es : List Expr} {t : VTA} {x1 : Nat} {pos : Pos} (h : VAQ X es t) : VQ X (.Tuple es x1 pos) (vTup t) := by
  obtain ⟨t', h1, h2⟩ := h.ex
  refine ⟨fun W => tTup (t' W), fun W tk => pe_tup (h1 W tk), fun b σ H ε T Tv W N Q Q' I q k x => ?_⟩
  refine h2 b σ H ε T Tv W N _ _ I q (fun ds vs ε1 H1 s1 J l z => ?_) x
  obtain ⟨z1, z⟩ := z
  exact ⟨k1000 (by rw [← l]; exact z1), fun p hp => k _ _ ε1 _ (s1.trans (Sub.laid hp)) (J.tup I.lenT hp) z⟩
def vOpQ (op : List D → (D → Prop) → Prop) (t : VTA) : VTE := fun N ε Q => t N ε fun ds ε1 => op ds fun d => Q d ε1
abbrev VTP := WV → Ep → (List Stp → Prop) → Prop
structure VP (X : Cv) (e : Expr) (i : Nat) (t : VTP) : Prop where
  ex : ∃ t' : WX → TE, (∀ W, Takes X.toCx W → PE X.toCx e (t' W)) ∧ ∀ (b : Bx X) σ H ε T Tv W N (Q : List Stp → Prop) (Q' : VK), SI X.K b.1 σ H ε T Tv → t N ε Q →
    (∀ p d0 d v0 v H', Sub H H' → SI X.K b.1 σ H' ε T Tv → ε[i]? = some (some d0) → getP d0 p = some d → σ[i]? = some (some v0) → AtP H' d0 v0 p v → Q p → Q' v H') → XL X.K b.1 T Tv W N → t' W σ H Q'
def vpName (i : Nat) : VTP := fun _ ε Q => (∃ d0, ε[i]? = some (some d0)) ∧ Q []
theorem getP_nil (d : D) : getP d [] = some d := by cases d <;> rfl
theorem vp_name {i : Nat} {x : Str} {pos : Pos} (hN : X.N[i]? = some x) (hv : Vis X.env.scope x) (hd : (x == ("__debug__" : Str)) = false := by decide) (hcd : (x == ("__classdict__" : Str)) = false := by decide) : VP X (.Name x pos) i (vpName i) := by
  refine ⟨fun _ => tVar i, fun _ _ => pe_var hN hv hd hcd, fun b σ H ε T Tv W N Q Q' I h k _ => ?_⟩
  obtain ⟨⟨d0, e⟩, q⟩ := h
  obtain ⟨v, hs, J⟩ := I.mov e
  exact ⟨v, hs, k [] d0 d0 v v H Sub.refl I e (getP_nil _) hs .nil q⟩
theorem AtP.ix {H : Hp} {d0 v0 p a ds vs w} {j : Nat} : AtP H d0 v0 p (.ref a) → getP d0 p = some (.lst true ds) → H a = some (.lst vs) → ds.length = vs.length → vs[j]? = some w → AtP H d0 v0 (p ++ [.ix j]) w := by
  intro at_ g ha hl hw
  generalize hv : V.ref a = v at at_
  induction at_ with
  | nil =>
    subst hv
    rw [getP_nil] at g
    cases g
    have hj : j < ds.length := by rw [hl]; exact (List.getElem?_eq_some_iff.mp hw).1
    exact .lst ha (List.getElem?_eq_getElem hj) hl hw .nil
  | lst e1 e2 e3 e4 _ ih =>
    refine .lst e1 e2 e3 e4 (ih ?_ hv)
    rename_i es c a' us k p' w' v' at'
    have g : (match es[k]? with | some d => getP d p' | none => none) = some (.lst true ds) := g
    rw [e2] at g
    exact g
  | tup e1 e2 e3 e4 _ ih =>
    refine .tup e1 e2 e3 e4 (ih ?_ hv)
    rename_i es c a' us k p' w' v' at'
    have g : (match es[k]? with | some d => getP d p' | none => none) = some (.lst true ds) := g
    rw [e2] at g
    exact g
  | ins e1 e2 e3 e4 e5 _ ih =>
    refine .ins e1 e2 e3 e4 e5 (ih ?_ hv)
    rename_i C fs es c a' dx us k f p' w' v' at'
    have g : (match fdIx fs f with | some j => (match es[j]? with | some d => getP d p' | none => none) | none => none) = some (.lst true ds) := g
    rw [e2] at g
    have g : (match es[k]? with | some d => getP d p' | none => none) = some (.lst true ds) := g
    rw [e3] at g
    exact g
end
end VL
namespace VL
open PySem PySem.Spec PyProof.Rows L2 VL
theorem getP_fd : ∀ {p : List Stp} {d0 : D} {C : Addr} {fs : List Cs} {ds : List D} {f : Cs} {j : Nat}, getP d0 p = some (.ins true C fs ds) → fdIx fs f = some j → getP d0 (p ++ [.fd f]) = ds[j]?
  | [], d0, C, fs, ds, f, j, h, hf => by
    rw [getP_nil] at h
    cases h
    show (match fdIx fs f with | some j => (match ds[j]? with | some d => getP d [] | none => none) | none => none) = ds[j]?
    rw [hf]
    show (match ds[j]? with | some d => getP d [] | none => none) = ds[j]?
    cases ds[j]? with
    | none => rfl
    | some d => exact getP_nil d
  | .ix k :: p, .lst true es, C, fs, ds, f, j, h, hf => by
    have h : (match es[k]? with | some d => getP d p | none => none) = some (.ins true C fs ds) := h
    show (match es[k]? with | some d => getP d (p ++ [.fd f]) | none => none) = ds[j]?
    cases e : es[k]? with
    | none => rw [e] at h; cases h
    | some c => rw [e] at h; exact getP_fd h hf
  | .fd g :: p, .ins true C' gs es, C, fs, ds, f, j, h, hf => by
    have h : (match fdIx gs g with | some j => (match es[j]? with | some d => getP d p | none => none) | none => none) = some (.ins true C fs ds) := h
    show (match fdIx gs g with | some k => (match es[k]? with | some d => getP d (p ++ [.fd f]) | none => none) | none => none) = ds[j]?
    cases e : fdIx gs g with
    | none => rw [e] at h; cases h
    | some c =>
      rw [e] at h
      have h : (match es[c]? with | some d => getP d p | none => none) = some (.ins true C fs ds) := h
      show (match es[c]? with | some d => getP d (p ++ [.fd f]) | none => none) = ds[j]?
      cases e2 : es[c]? with
      | none => rw [e2] at h; cases h
      | some c => rw [e2] at h; exact getP_fd h hf
  | .fd _ :: p, .lst true es, C, fs, ds, f, j, h, hf => by cases h
  | .ix _ :: p, .ins true C' gs es, C, fs, ds, f, j, h, hf => by cases h
  | s :: p, .lst false es, C, fs, ds, f, j, h, hf => by cases s <;> cases h
  | s :: p, .ins false _ _ _, C, fs, ds, f, j, h, hf => by cases s <;> cases h
  | .ix k :: p, .tup es, C, fs, ds, f, j, h, hf => by
    have h : (match es[k]? with | some d => getP d p | none => none) = some (.ins true C fs ds) := h
    show (match es[k]? with | some d => getP d (p ++ [.fd f]) | none => none) = ds[j]?
    cases e : es[k]? with
    | none => rw [e] at h; cases h
    | some c => rw [e] at h; exact getP_fd h hf
  | .fd _ :: p, .tup es, C, fs, ds, f, j, h, hf => by cases h
  | s :: p, .hole, C, fs, ds, f, j, h, hf => by cases s <;> cases h
  | s :: p, .val _, C, fs, ds, f, j, h, hf => by cases s <;> cases h
  | s :: p, .non, C, fs, ds, f, j, h, hf => by cases s <;> cases h
  | s :: p, .bl _, C, fs, ds, f, j, h, hf => by cases s <;> cases h
  | s :: p, .int _, C, fs, ds, f, j, h, hf => by cases s <;> cases h
  | s :: p, .str _, C, fs, ds, f, j, h, hf => by cases s <;> cases h
  | s :: p, .ty _, C, fs, ds, f, j, h, hf => by cases s <;> cases h
  | s :: p, .pin _ _, C, fs, ds, f, j, h, hf => by cases s <;> cases h
  | s :: p, .exn _ _ _ _, C, fs, ds, f, j, h, hf => by cases s <;> cases h
  | s :: p, .dK _ _ _, C, fs, ds, f, j, h, hf => by cases s <;> cases h
  | s :: p, .dT _ _ _, C, fs, ds, f, j, h, hf => by cases s <;> cases h
theorem AtP.fd {H : Hp} {d0 v0 p a dx C C2 fs ds vs w f} {j : Nat} : AtP H d0 v0 p (.ref a) → getP d0 p = some (.ins true C fs ds) → H a = some (.ins C2 dx (fzip fs vs)) → fdIx fs f = some j → fs.length = vs.length → ds.length = vs.length → vs[j]? = some w → AtP H d0 v0 (p ++ [.fd f]) w := by
  intro at_ g ha hf hl hd hw
  generalize hv : V.ref a = v at at_
  induction at_ with
  | nil =>
    subst hv
    rw [getP_nil] at g
    cases g
    have hj : j < ds.length := by rw [hd]; exact (List.getElem?_eq_some_iff.mp hw).1
    exact .ins ha hf (List.getElem?_eq_getElem hj) hl hw .nil
  | lst e1 e2 e3 e4 _ ih =>
    refine .lst e1 e2 e3 e4 (ih ?_ hv)
    rename_i es c a' us k p' w' v' at'
    have g : (match es[k]? with | some d => getP d p' | none => none) = some (.ins true C fs ds) := g
    rw [e2] at g
    exact g
  | tup e1 e2 e3 e4 _ ih =>
    refine .tup e1 e2 e3 e4 (ih ?_ hv)
    rename_i es c a' us k p' w' v' at'
    have g : (match es[k]? with | some d => getP d p' | none => none) = some (.ins true C fs ds) := g
    rw [e2] at g
    exact g
  | ins e1 e2 e3 e4 e5 _ ih =>
    refine .ins e1 e2 e3 e4 e5 (ih ?_ hv)
    rename_i C' C3 gs es c a' dx' us k f' p' w' v' at'
    have g : (match fdIx gs f' with | some j => (match es[j]? with | some d => getP d p' | none => none) | none => none) = some (.ins true C fs ds) := g
    rw [e2] at g
    have g : (match es[k]? with | some d => getP d p' | none => none) = some (.ins true C fs ds) := g
    rw [e3] at g
    exact g
section
variable {K : PySem.W.Frag} {b : Bs} {σ : L2.St} {H : Hp} {ε : Ep} {T R : List D} {Tv Rv : List V}
/-- the node at a place, where its address is known -/
theorem SI.focusAt (I : SI K b σ H ε (T ++ R) (Tv ++ Rv)) (hl : T.length = Tv.length) {i : Nat} {d0 d : D} {p : List Stp} {v0 v : V} (e : ε[i]? = some (some d0)) (g : getP d0 p = some d) (hs : σ[i]? = some (some v0)) (at_ : AtP H d0 v0 p v) :
    ∃ G B FR, Sub G H ∧ Rp K G H d v B ∧ RpL K G H R Rv FR ∧ (B ++ FR).Nodup ∧ (∀ a ∈ B ++ FR, G a = none) ∧
      ∀ H' d' B' res w Fr, (∀ a, a ∉ B → H' a = H a) → Rp K G H' d' v B' → Rp K G H' res w Fr → (B ≠ [] ∨ B' = []) → (∃ L, (B' ++ (Fr ++ L)).Perm (B ++ FR)) → SI K b σ H' (ε.set i (some (setP d0 p d'))) (T ++ [res]) (Tv ++ [w]) := by
  obtain ⟨v0', v', G, B, FR, hs', at', su, r, rr, nd, fr, back⟩ := I.focus hl e g
  rw [hs] at hs'
  cases hs'
  have := at_.uniq at'
  subst this
  exact ⟨G, B, FR, su, r, rr, nd, fr, back⟩
theorem SI.nil0 (I : SI K b σ H ε T Tv) : SI K b σ H ε (T ++ []) (Tv ++ []) := by simpa using I
end
theorem ixN_lt {n : Nat} {i : Int} {j : Nat} (h : ixN n i = some j) : j < n := (ixN_seq h).2.1
section
variable {X : Cv}
/-- a step into a list that is ours -/
def vpIx (i : Nat) (t : VTP) (ti : VTE) : VTP := fun N ε Q => t N ε fun p => ti N ε fun k ε2 => ε2 = ε ∧ ∃ d0 ds z j, ε[i]? = some (some d0) ∧ getP d0 p = some (.lst true ds) ∧ k = .int z ∧ ixN ds.length z = some j ∧ Q (p ++ [.ix j])
/-- a step into a field of an instance that is ours -/
def vpFd (i : Nat) (C : Addr) (f : Cs) (t : VTP) : VTP := fun N ε Q => t N ε fun p => ∃ d0 fs ds j, ε[i]? = some (some d0) ∧ getP d0 p = some (.ins true C fs ds) ∧ fdIx fs f = some j ∧ j < ds.length ∧ Q (p ++ [.fd f])
theorem vp_fd {e : Expr} {i : Nat} {t : VTP} {x : Str} {f : Cs} {C : Addr} {pos : Pos} (h : VP X e i t) (cl : Cls X.K (cA X.K C)) (na : NoAttr X.K (cA X.K C) x) (hx : x = toS f) (hb : attributeBase e x X.env (eval e X.env) = eval e X.env := by rfl) : VP X (.Attribute e x pos) i (vpFd i C f t) := by
  obtain ⟨t', a1, a2⟩ := h.ex
  refine ⟨fun W => tFld X.K (t' W) x, fun W tk => pe_fld (a1 W tk) hb, fun b σ H ε T Tv W N Q Q' I q k xx => ?_⟩
  refine a2 b σ H ε T Tv W N _ _ I q (fun p d0 d v0 v H1 s1 I1 e g hs at_ q1 => ?_) xx
  obtain ⟨d0', fs, ds, j, e', g', hf, hj, q1⟩ := q1
  rw [e] at e'
  cases e'
  obtain ⟨G, B, FR, su, r, _⟩ := I1.nil0.focusAt I.lenT e g' hs at_
  obtain ⟨a, dx, vs, F', rfl, ha, rfl, hl, rl⟩ := r
  have hl2 := rl.len
  obtain ⟨w, hw⟩ : ∃ w, vs[j]? = some w := ⟨vs[j]'(by omega), List.getElem?_eq_getElem (by omega)⟩
  refine ⟨a, cA X.K C, dx, _, w, rfl, ha, cl, na, ?_, ?_⟩
  · rw [hx]
    exact fzip_look hf hw (hl.trans hl2)
  · exact k (p ++ [.fd f]) d0 (ds[j]'hj) v0 w H1 s1 I1 e (by rw [getP_fd g' hf]; exact List.getElem?_eq_getElem hj) hs (at_.fd g' ha hf (hl.trans hl2) hl2 hw) q1
/-- what stands at a place and stands still, read -/
def vAt (i : Nat) (t : VTP) : VTE := fun N ε Q => t N ε fun p => ∃ d0 d, ε[i]? = some (some d0) ∧ getP d0 p = some d ∧ isFz d = true ∧ Q d ε
theorem pa_list : PlainAttrs "list" := PySem.F.plainAttrs_list
theorem k1m {n : Nat} (h : n < 1000000) : n < sizeLine := Nat.lt_trans h (by decide)
/-- a method that changes a list: the items and the arguments give the new items and the answer -/
def MutOk (K : PySem.W.Frag) (r : V → List V → Hp → VK → Prop) (mu : List D → List D → Option (List D × D)) : Prop :=
  ∀ (G H : Hp) (a : Addr) (ds : List D) (vs : List V) (F : List Addr) (R : List D) (Rv : List V) (FR : List Addr) (ds' : List D) (res : D) (Q : VK), Sub G H → H a = some (.lst vs) → RpL K G H ds vs F → RpL K G H R Rv FR → (a :: (F ++ FR)).Nodup → G a = none → mu ds R = some (ds', res) →
    (∀ vs' w F' Fr, RpL K G H ds' vs' F' → Rp K G H res w Fr → (∃ L, (F' ++ (Fr ++ L)).Perm (F ++ FR)) → Q w (upd H a (.lst vs'))) → r (.ref a) Rv H Q
def vMut (mu : List D → List D → Option (List D × D)) (i : Nat) (t : VTP) (te : VTA) : VTE := fun N ε Q => t N ε fun p => ∃ d0 ds, ε[i]? = some (some d0) ∧ getP d0 p = some (.lst true ds) ∧ te N ε fun es ε1 => ∃ ds' res, ε1[i]? = some (some d0) ∧ mu ds es = some (ds', res) ∧ Q res (ε1.set i (some (setP d0 p (.lst true ds'))))
theorem mut_run {K : PySem.W.Frag} {b : Bs} {σ : L2.St} {H : Hp} {ε : Ep} {T R : List D} {Tv Rv : List V} {r : V → List V → Hp → VK → Prop} {mu : List D → List D → Option (List D × D)} (m : MutOk K r mu) (I : SI K b σ H ε (T ++ R) (Tv ++ Rv)) (hl : T.length = Tv.length) {i : Nat} {d0 : D} {p : List Stp} {v0 v : V} {ds ds' : List D} {res : D} {Q : VK}
    (e : ε[i]? = some (some d0)) (g : getP d0 p = some (.lst true ds)) (hs : σ[i]? = some (some v0)) (at_ : AtP H d0 v0 p v) (hm : mu ds R = some (ds', res))
    (k : ∀ w H', SI K b σ H' (ε.set i (some (setP d0 p (.lst true ds')))) (T ++ [res]) (Tv ++ [w]) → Q w H') : r v Rv H Q := by
  obtain ⟨G, B, FR, su, rr, rR, nd, fr, back⟩ := I.focusAt hl e g hs at_
  obtain ⟨a, vs, F', rfl, ha, rfl, rl⟩ := rr
  have nd2 : (a :: (F' ++ FR)).Nodup := nd
  refine m G H a ds vs F' R Rv FR ds' res Q su ha rl rR nd2 (fr a (by simp)) hm fun vs' w F2 Fr q1 q2 sp => ?_
  obtain ⟨L, sp⟩ := sp
  have na : ∀ c ∈ F2 ++ (Fr ++ L), c ≠ a := fun c hc z => (List.nodup_cons.mp nd2).1 (z ▸ sp.mem_iff.mp hc)
  have mv : ∀ c ∈ F2 ++ (Fr ++ L), upd H a (.lst vs') c = H c := fun c hc => upd_ne (na c hc)
  refine k w _ (back (upd H a (.lst vs')) (.lst true ds') (a :: F2) res w Fr (fun c hc => upd_ne fun z => hc (by rw [z]; simp)) ⟨a, vs', F2, rfl, upd_same, rfl, q1.mono Sub.refl fun c hc => mv c (List.mem_append_left _ hc)⟩ (q2.mono Sub.refl fun c hc => mv c (List.mem_append_right _ (List.mem_append_left _ hc))) (.inl (by simp)) ⟨L, ?_⟩)
  exact List.Perm.cons a sp
theorem tyV_list {K : PySem.W.Frag} {b : Bs} {σ : L2.St} {H : Hp} {ε : Ep} {T : List D} {Tv : List V} (I : SI K b σ H ε T Tv) {i : Nat} {d0 : D} {p : List Stp} {v0 v : V} {ds : List D} (e : ε[i]? = some (some d0)) (g : getP d0 p = some (.lst true ds)) (hs : σ[i]? = some (some v0)) (at_ : AtP H d0 v0 p v) : tyV K "list" v H := by
  obtain ⟨G, B, FR, su, rr, _⟩ := I.nil0.focusAt I.lenT e g hs at_
  obtain ⟨a, vs, F', rfl, ha, _⟩ := rr
  exact Or.inl ⟨rfl, vs, SqL.of ha⟩
theorem ve_mut {o e : Expr} {es : List Expr} {i : Nat} {t : VTP} {te : VTA} {name : Str} {id : String} {r : V → List V → Hp → VK → Prop} {mu : List D → List D → Option (List D × D)} {apos cpos : Pos} (h : VP X o i t) (he : VAQ X (e :: es) te) (m : MutOk X.K r mu) (sl : Slot "list" name id) (ty : typeOf (.builtin id) = pure (.type "method_descriptor")) (mt : MtR X.toCx id r)
    (hbase : attributeBase o name X.env (eval o X.env) = eval o X.env := by rfl)
    (hfew : ((backTo cpos (starEach (e :: es) X.env)).all (fun x => !x.1) && (backToKw cpos (keywordEach [] X.env)).all (fun x => x.1.isSome) && decide ((e :: es).length + ([] : List Keyword).length + (if ([] : List Keyword).isEmpty then 0 else 1) < 30)) = true := by rfl)
    (hline : (apos.endLine == cpos.line) = true := by rfl) (hs : starEach (e :: es) X.env = (false, eval e X.env) :: starEach es X.env := by rfl) (hplain : (backTo cpos (starEach es X.env)).any (·.1) = false := by rfl) :
    VE X (.Call (.Attribute o name apos) (e :: es) [] cpos) (vMut mu i t te) := by
  obtain ⟨t', a1, a2⟩ := h.ex
  obtain ⟨u', b1, b2⟩ := he.ex
  refine ⟨fun W => tBM X.K "list" r (t' W) (u' W), fun W tk => pe_bm pa_list sl ty mt (a1 W tk) (b1 W tk) hbase hfew hline hs hplain, fun b σ H ε T Tv W N Q Q' I q k x => ?_⟩
  refine a2 b σ H ε T Tv W N _ _ I q (fun p d0 d v0 v H1 s1 I1 e0 g hs at_ q1 => ?_) x
  obtain ⟨d0', ds, e1, g', q1⟩ := q1
  rw [e0] at e1
  cases e1
  refine ⟨tyV_list I1 e0 g' hs at_, b2 b σ H1 ε T Tv W N _ _ I1 q1 (fun ys ws ε2 H2 s2 I2 l q2 => ?_) x⟩
  obtain ⟨ds', res, e2, hm, q2⟩ := q2
  exact mut_run m I2 I.lenT e2 g' hs (at_.grow s2) hm fun w H' J => k res w _ H' J q2
/-- x.append(e) and its like, x a name, e anything -/
def vMutN (mu : List D → List D → Option (List D × D)) (i : Nat) (te : VTA) : VTE := fun N ε Q => (∃ ds, ε[i]? = some (some (.lst true ds))) ∧ te N ε fun es ε1 => ∃ ds ds' res, ε1[i]? = some (some (.lst true ds)) ∧ mu ds es = some (ds', res) ∧ Q res (ε1.set i (some (.lst true ds')))
theorem ve_mutN {y : Str} {opos : Pos} {e : Expr} {es : List Expr} {i : Nat} {rs : List (Option Nat)} {te : VTA} {name : Str} {id : String} {r : V → List V → Hp → VK → Prop} {mu : List D → List D → Option (List D × D)} {apos cpos : Pos} (hN : X.N[i]? = some y) (hv : Vis X.env.scope y) (he : VA X (e :: es) rs te) (hrs : rs.all (· == none) = true) (m : MutOk X.K r mu) (sl : Slot "list" name id) (ty : typeOf (.builtin id) = pure (.type "method_descriptor")) (mt : MtR X.toCx id r)
    (hd : (y == ("__debug__" : Str)) = false := by decide) (hcd : (y == ("__classdict__" : Str)) = false := by decide)
    (hbase : attributeBase (.Name y opos) name X.env (eval (.Name y opos) X.env) = eval (.Name y opos) X.env := by rfl)
    (hfew : ((backTo cpos (starEach (e :: es) X.env)).all (fun x => !x.1) && (backToKw cpos (keywordEach [] X.env)).all (fun x => x.1.isSome) && decide ((e :: es).length + ([] : List Keyword).length + (if ([] : List Keyword).isEmpty then 0 else 1) < 30)) = true := by rfl)
    (hline : (apos.endLine == cpos.line) = true := by rfl) (hs : starEach (e :: es) X.env = (false, eval e X.env) :: starEach es X.env := by rfl) (hplain : (backTo cpos (starEach es X.env)).any (·.1) = false := by rfl) :
    VE X (.Call (.Attribute (.Name y opos) name apos) (e :: es) [] cpos) (vMutN mu i te) := by
  obtain ⟨u', b1, b2⟩ := he.ex
  refine ⟨fun W => tBM X.K "list" r (tVar i) (u' W), fun W tk => pe_bm pa_list sl ty mt (pe_var hN hv hd hcd) (b1 W tk) hbase hfew hline hs hplain, fun b σ H ε T Tv W N Q Q' I q k x => ?_⟩
  obtain ⟨⟨ds0, e0⟩, q⟩ := q
  obtain ⟨v, hs, _⟩ := I.mov e0
  refine ⟨v, hs, tyV_list I e0 (getP_nil _) hs .nil, b2 b σ H ε T Tv W N _ _ I q (fun ys ws ε2 H2 I2 l hh q2 => ?_) x⟩
  obtain ⟨ds, ds', res, e2, hm, q2⟩ := q2
  exact mut_run m I2 I.lenT e2 (getP_nil _) hs .nil hm fun w H' J => k res w _ H' J q2
def muAppend : List D → List D → Option (List D × D) := fun ds es => match es with | [y] => if ds.length < 1000000 then some (ds ++ [y], .non) else none | _ => none
def muPop : List D → List D → Option (List D × D) := fun ds es => match es with | [] => (ds[ds.length - 1]?).map fun y => (ds.dropLast, y) | _ => none
theorem mu_append {K : PySem.W.Frag} : MutOk K rAppend muAppend := by
  intro G H a ds vs F R Rv FR ds' res Q su ha rl rR nd ga hm k
  match R, hm with
  | [y], hm =>
    have hm : (if ds.length < 1000000 then some (ds ++ [y], D.non) else none) = some (ds', res) := hm
    by_cases hz : ds.length < 1000000
    · rw [if_pos hz] at hm
      cases hm
      obtain ⟨w, rfl, rw_⟩ := rR.one'
      exact ⟨a, vs, w, rfl, rfl, ha, k1m (by rw [← rl.len]; exact hz), k _ _ _ [] (rl.append rR) ⟨rfl, rfl⟩ ⟨[], by simp⟩⟩
    · rw [if_neg hz] at hm; cases hm
end
end VL
namespace VL
open PySem PySem.Spec PyProof.Rows L2 VL
/-- a[i] = v, of a list or a dict -/
def rSetAny : V → V → V → Hp → (Hp → Prop) → Prop := fun o i v H Q => rSetL o i v H Q ∨ ∃ a H4, o = .ref a ∧ DPut H a i v H4 ∧ Q H4
theorem pset_any {X : Cx} (hu : X.A.units + 1 < cLine) : PSet X rSetAny := by
  intro pins s σ H o i v ov iv u Q I ro ri rv h
  rcases h with h | ⟨a, H4, rfl, g, q⟩
  · exact set_list pins s σ H o i v ov iv u Q I ro ri rv h
  · obtain rfl : ov = Value.ref a := ro
    exact d_setItem hu I g ri rv fun s4 I4 => ⟨H4, I4, q⟩
theorem RpL.setAt {K : PySem.W.Frag} {G H : Hp} {ds : List D} {vs : List V} {F : List Addr} {j : Nat} {y : D} {w : V} {Fy : List Addr} (r : RpL K G H ds vs F) (hj : j < ds.length) (ry : Rp K G H y w Fy) : ∃ F', RpL K G H (ds.set j y) (vs.set j w) F' ∧ ∃ L, (F' ++ L).Perm (F ++ Fy) := by
  obtain ⟨v, A, B, C, hv, rfl, rv, back⟩ := r.focus (i := j) (List.getElem?_eq_getElem hj)
  refine ⟨A ++ Fy ++ C, back G H y w Fy Sub.refl (fun _ _ => rfl) ry, B, ?_⟩
  apply List.perm_iff_count.mpr
  intro a
  simp only [List.count_append]
  omega
section
variable {K : PySem.W.Frag} {b : Bs} {σ : L2.St} {H : Hp} {ε : Ep} {T : List D} {Tv : List V} {y k : D} {w kv : V}
theorem idx_nodup {α : Type} [DecidableEq α] : ∀ {ks : List α} {k : α}, kIx ks k = none → ks.Nodup → (ks ++ [k]).Nodup
  | ks, k, h, n => by
    have : ∀ {ks : List α}, kIx ks k = none → k ∉ ks := by
      intro ks
      induction ks with
      | nil => intro _; simp
      | cons a ks ih =>
        intro h
        unfold kIx at h
        split at h
        · cases h
        · rename_i na
          cases e : kIx ks k with
          | some i => rw [e] at h; cases h
          | none =>
            intro hm
            rcases List.mem_cons.mp hm with z | z
            · exact na z.symm
            · exact ih e z
    refine List.nodup_append.mpr ⟨n, by simp, fun a ha c hc e => ?_⟩
    have hc : c = k := by simpa using hc
    subst hc e
    exact this h ha
/-- a store runs -/
theorem put_run (I : SI K b σ H ε (T ++ [y, k]) (Tv ++ [w, kv])) (hl : T.length = Tv.length) {i : Nat} {d0 c c' : D} {p : List Stp} {v0 v : V} {Q : Hp → Prop}
    (e : ε[i]? = some (some d0)) (g : getP d0 p = some c) (hs : σ[i]? = some (some v0)) (at_ : AtP H d0 v0 p v) (hm : putD c k y = some c')
    (q : ∀ H', SI K b σ H' (ε.set i (some (setP d0 p c'))) T Tv → Q H') : rSetAny v kv w H Q := by
  obtain ⟨G, B, FR, su, rr, rR, nd, fr, back⟩ := I.focusAt hl e g hs at_
  obtain ⟨w', vs1, Fy, A2, e1, rfl, ry, k', vs2, Fk, A3, e2, rfl, rk, rfl, rfl⟩ := rR
  cases e1
  cases e2
  -- the new node at a
  have fin : ∀ (a : Addr) (F' : List Addr) (o : HO) (F2 : List Addr), B = a :: F' → (∀ H', H' a = some o → (∀ z ∈ F2, H' z = H z) → Rp K G H' c' v (a :: F2)) → (∃ L, (F2 ++ L).Perm (F' ++ Fy)) → SI K b σ (upd H a o) (ε.set i (some (setP d0 p c'))) T Tv := by
    intro a F' o F2 eB mk sp
    subst eB
    obtain ⟨L, sp⟩ := sp
    have nd2 : (a :: (F' ++ (Fy ++ (Fk ++ [])))).Nodup := nd
    have na : ∀ z ∈ F2, z ≠ a := fun z hz e => by
      have h1 : z ∈ F' ++ Fy := sp.mem_iff.mp (List.mem_append_left _ hz)
      refine (List.nodup_cons.mp nd2).1 (e ▸ ?_)
      simp only [List.mem_append] at h1 ⊢
      grind
    have J := back (upd H a o) c' (a :: F2) .non .non [] (fun z hz => upd_ne fun e => hz (by rw [e]; simp)) (mk _ upd_same fun z hz => upd_ne (na z hz)) ⟨rfl, rfl⟩ (.inl (by simp)) ⟨L ++ Fk, ?_⟩
    · exact J.drop hl
    · apply List.perm_iff_count.mpr
      intro z
      have := sp.count_eq z
      simp only [List.count_append, List.count_cons, List.cons_append, List.nil_append, List.count_nil] at this ⊢
      omega
  have growF : ∀ {A L Fy' : List Addr}, (A ++ L).Perm (Fy' ++ Fy) → ∃ L, (A ++ L).Perm (Fy' ++ Fy) := fun h => ⟨_, h⟩
  cases c with
  | lst m ds =>
    cases m with
    | false => cases hm
    | true =>
      cases k with
      | int kk =>
        obtain ⟨rfl, rfl⟩ := rk
        have hm : (ixN ds.length kk).map (fun j => D.lst true (ds.set j y)) = some c' := hm
        cases hj : ixN ds.length kk with
        | none => rw [hj] at hm; cases hm
        | some j =>
          rw [hj] at hm
          cases hm
          obtain ⟨a, vs, F', rfl, ha, rfl, rl⟩ := rr
          have hlt := ixN_lt hj
          obtain ⟨F2, r2, sp⟩ := rl.setAt hlt ry
          exact .inl ⟨a, vs, kk, j, rfl, rfl, ha, by rw [← rl.len]; exact hj, q _ (fin a F' _ F2 rfl (fun H' h1 h2 => ⟨a, _, F2, rfl, h1, rfl, r2.mono Sub.refl h2⟩) sp)⟩
      | _ => cases hm
  | pin u c1 =>
    cases c1 with
    | lst m ds =>
      cases m with
      | false => cases hm
      | true =>
        cases k with
        | int kk =>
          obtain ⟨rfl, rfl⟩ := rk
          have hm : (ixN ds.length kk).map (fun j => D.pin u (.lst true (ds.set j y))) = some c' := hm
          cases hj : ixN ds.length kk with
          | none => rw [hj] at hm; cases hm
          | some j =>
            rw [hj] at hm
            cases hm
            obtain ⟨rfl, a, vs, F', rfl, ha, rfl, rl⟩ := rr
            have hlt := ixN_lt hj
            obtain ⟨F2, r2, sp⟩ := rl.setAt hlt ry
            exact .inl ⟨a, vs, kk, j, rfl, rfl, ha, by rw [← rl.len]; exact hj, q _ (fin a F' _ F2 rfl (fun H' h1 h2 => ⟨rfl, a, _, F2, rfl, h1, rfl, r2.mono Sub.refl h2⟩) sp)⟩
        | _ => cases hm
    | _ => cases hm
  | dK m ks ds =>
    cases m with
    | false => cases hm
    | true =>
      have hm : (if ds.length < 1000000 then (keyD k).map fun k => (match kIx ks k with | some j => D.dK true ks (ds.set j y) | none => D.dK true (ks ++ [k]) (ds ++ [y])) else none) = some c' := hm
      by_cases hz : ds.length < 1000000
      · rw [if_pos hz] at hm
        cases hk : keyD k with
        | none => rw [hk] at hm; cases hm
        | some kc0 =>
          rw [hk] at hm
          obtain ⟨a, vs, F', rfl, ha, rfl, l1, n1, rl⟩ := rr
          obtain ⟨rfl, rfl⟩ := rk.keyD hk
          have l2 : ks.length = vs.length := l1.trans rl.len
          refine .inr ⟨a, _, rfl, DPut.k ha (k1m (by unfold kzip; rw [List.length_zip, List.length_map, l2, Nat.min_self, ← rl.len]; exact hz)), ?_⟩
          rw [kzip_put n1 l2]
          cases hi : kIx ks kc0 with
          | some j =>
            have hm : some (D.dK true ks (ds.set j y)) = some c' := by rw [← hm, Option.map_some, hi]
            cases hm
            have hlt : j < ds.length := by rw [← l1]; exact kIx_lt hi
            obtain ⟨F2, r2, sp⟩ := rl.setAt hlt ry
            exact q _ (fin a F' _ F2 rfl (fun H' h1 h2 => ⟨a, _, F2, rfl, h1, rfl, by simpa using l1, n1, r2.mono Sub.refl h2⟩) sp)
          | none =>
            have hm : some (D.dK true (ks ++ [kc0]) (ds ++ [y])) = some c' := by rw [← hm, Option.map_some, hi]
            cases hm
            exact q _ (fin a F' _ (F' ++ Fy) rfl (fun H' h1 h2 => ⟨a, _, F' ++ Fy, rfl, h1, rfl, by simp [l1], idx_nodup hi n1, (rl.append (RpL.one.mpr ry)).mono Sub.refl h2⟩) ⟨[], by simp⟩)
      · rw [if_neg hz] at hm; cases hm
  | dT m ks ds =>
    cases m with
    | false => cases hm
    | true =>
      have hm : (if ds.length < 1000000 then (keyT k).map fun k => (match kIx ks k with | some j => D.dT true ks (ds.set j y) | none => D.dT true (ks ++ [k]) (ds ++ [y])) else none) = some c' := hm
      by_cases hz : ds.length < 1000000
      · rw [if_pos hz] at hm
        cases hk : keyT k with
        | none => rw [hk] at hm; cases hm
        | some kc0 =>
          rw [hk] at hm
          obtain ⟨a, vs, F', rfl, ha, rfl, l1, n1, rl⟩ := rr
          obtain ⟨kb, rfl, hkb, rfl⟩ := rk.keyT su hk
          have l2 : ks.length = vs.length := l1.trans rl.len
          refine .inr ⟨a, _, rfl, DPut.t ha hkb (k1m (by unfold tzip; rw [List.length_zip, List.length_map, l2, Nat.min_self, ← rl.len]; exact hz)), ?_⟩
          rw [tzip_put n1 l2]
          cases hi : kIx ks kc0 with
          | some j =>
            have hm : some (D.dT true ks (ds.set j y)) = some c' := by rw [← hm, Option.map_some, hi]
            cases hm
            have hlt : j < ds.length := by rw [← l1]; exact kIx_lt hi
            obtain ⟨F2, r2, sp⟩ := rl.setAt hlt ry
            exact q _ (fin a F' _ F2 rfl (fun H' h1 h2 => ⟨a, _, F2, rfl, h1, rfl, by simpa using l1, n1, r2.mono Sub.refl h2⟩) sp)
          | none =>
            have hm : some (D.dT true (ks ++ [kc0]) (ds ++ [y])) = some c' := by rw [← hm, Option.map_some, hi]
            cases hm
            exact q _ (fin a F' _ (F' ++ Fy) rfl (fun H' h1 h2 => ⟨a, _, F' ++ Fy, rfl, h1, rfl, by simp [l1], idx_nodup hi n1, (rl.append (RpL.one.mpr ry)).mono Sub.refl h2⟩) ⟨[], by simp⟩)
      · rw [if_neg hz] at hm; cases hm
  | _ => cases hm
end
section
variable {X : Cv}
/-- place[k] = e -/
def vSet (i : Nat) (te : VTE) (tp : VTP) (tk : VTE) : VTS := fun N ε => te N.rx ε fun d ε1 => tp N.rx ε1 fun p => tk N.rx ε1 fun k ε2 => ∃ d0 c c', ε2[i]? = some (some d0) ∧ ε1[i]? = some (some d0) ∧ getP d0 p = some c ∧ putD c k d = some c' ∧ N.nx (ε2.set i (some (setP d0 p c')))
theorem vs_set {o ie e : Expr} {i : Nat} {te tk : VTE} {tp : VTP} {pos tpos : Pos} {k : Nat} (hr : Room k X.A) (he : VE X e te) (hp : VP X o i tp) (hk : VQ X ie tk)
    (hsw : swapsWithSole [.Subscript o ie tpos] e pos.line X.env = pure false := by rfl) (hw : swappedStores [.Subscript o ie tpos] e X.env = pure none := by rfl)
    (h1 : (assignEach [.Subscript o ie tpos] X.env).map (·.2) = [assign (.Subscript o ie tpos) X.env] := by rfl)
    (ha : ∀ v, assign (.Subscript o ie tpos) X.env v = (do
      let ov ← holding [v] (eval o X.env)
      let iv ← holding [v, ov] (eval ie X.env)
      standAt tpos
      holding [v, ov, iv] (setItem ov iv v)
      release [v, ov, iv] []) := by intro _; rfl) : VS X (.Assign [.Subscript o ie tpos] e pos) (vSet i te tp tk) := by
  obtain ⟨te', e1, e2⟩ := he.ex
  obtain ⟨tp', p1, p2⟩ := hp.ex
  obtain ⟨tk', k1, k2⟩ := hk.ex
  refine ⟨fun W => tAsg (te' W) (gSub (tp' W) (tk' W) rSetAny), fun W tk => ps_asg (e1 W tk) (pg_sub (p1 W tk) (k1 W tk) (pset_any (by have := hr.units; omega)) ha) hsw hw h1, fun b σ H ε T Tv W N E I q l x => ?_⟩
  refine e2 b σ H ε T Tv W N.rx _ _ I q (fun d v ε1 H1 I1 q1 => ?_) x
  have x1 : XL X.K b.1 (T ++ [d]) (Tv ++ [v]) W N.rx := x.more I.lenT rfl
  refine p2 b σ H1 ε1 (T ++ [d]) (Tv ++ [v]) W N.rx _ _ I1 q1 (fun p d0 c v0 vc H2 s2 I2 ei g hs at_ q2 => ?_) x1
  refine k2 b σ H2 ε1 (T ++ [d]) (Tv ++ [v]) W N.rx _ _ I2 q2 (fun kd kv ε2 H3 s3 I3 q3 => ?_) x1
  obtain ⟨d0', c0, c', ei2, ei1, g', hm, q3⟩ := q3
  rw [ei] at ei1
  cases ei1
  rw [g] at g'
  cases g'
  exact put_run (by simpa only [List.append_assoc, List.cons_append, List.nil_append] using I3) I.lenT ei2 g hs (at_.grow s3) hm fun H' J => l.nx σ H' _ J q3
end
end VL
namespace VL
open PySem PySem.Spec PyProof.Rows L2 VL
section
variable {K : PySem.W.Frag} {b : Bs} {σ : L2.St} {H : Hp} {ε : Ep} {T : List D} {Tv : List V}
theorem SIx.pushL {G F Ft} : ∀ {ds : List D} {vs : List V} {T : List D} {Tv : List V}, SIx K b G F Ft σ H ε T Tv → RpL K G H ds vs [] → SIx K b G F Ft σ H ε (T ++ ds) (Tv ++ vs)
  | [], vs, T, Tv, I, r => by
    obtain ⟨rfl, _⟩ := r
    simpa using I
  | d :: ds, vs, T, Tv, I, r => by
    obtain ⟨v, vs', F1, F2, rfl, f, rd, rs⟩ := r
    obtain ⟨rfl, rfl⟩ := List.append_eq_nil_iff.mp f.symm
    have := SIx.pushL (I.push rd) rs
    simpa only [List.append_assoc, List.cons_append, List.nil_append] using this
end
/-- the answer of an operation: a value, or a new object of things that stand still -/
inductive Nw (K : PySem.W.Frag) (G H : Hp) : D → V → Hp → Prop where
  | val {d v} : (∀ G' H', Sub G G' → Rp K G' H' d v []) → Nw K G H d v H
  | lst {ys : List D} {ws : List V} {p : Addr} : RpL K G H ys ws [] → H p = none → Nw K G H (.lst true ys) (.ref p) (upd H p (.lst ws))
  | tup {ys : List D} {ws : List V} {p : Addr} : RpL K G H ys ws [] → H p = none → Nw K G H (.tup ys) (.ref p) (upd H p (.tup ws))
  | dK {ks : List Kc} {ys : List D} {ws : List V} {p : Addr} : RpL K G H ys ws [] → H p = none → ks.length = ys.length → ks.Nodup → Nw K G H (.dK true ks ys) (.ref p) (upd H p (.dK (kzip ks ws)))
  | dT {ks : List (List Kc)} {ys : List D} {ws : List V} {p : Addr} : RpL K G H ys ws [] → H p = none → ks.length = ys.length → ks.Nodup → Nw K G H (.dT true ks ys) (.ref p) (upd H p (.dT (tzip ks ws)))
theorem OpN.mk {K : PySem.W.Frag} {r : List V → Hp → VK → Prop} {op : List D → (D → Prop) → Prop}
    (h : ∀ (G H : Hp) (ds : List D) (vs : List V) (F : List Addr) (Q : D → Prop) (Q' : VK), Sub G H → RpL K G H ds vs F → op ds Q → (∀ d v H', Nw K G H d v H' → Q d → Q' v H') → r vs H Q') : OpN K r op :=
  fun b σ H ε T Tv ds vs Q Q' hl hd I q k => by
    obtain ⟨G, F, Ft, J⟩ := I
    obtain ⟨F1, F2, rfl, r1, r2⟩ := J.temps.split2 hl
    have hl2 : (T ++ ds).length = (Tv ++ vs).length := by simp [hl, hd]
    refine h G H ds vs F2 Q Q' J.sub r2 q fun d v H' nw z => ?_
    cases nw with
    | val rd =>
      refine k d v H Sub.refl ⟨G, F, F1 ++ F2, ?_⟩ z
      have := J.push (d := d) (v := v) (rd G H Sub.refl)
      simpa only [List.append_assoc] using this
    | lst ry hp =>
      refine k _ _ _ (Sub.laid hp) ?_ z
      have := SI.laid (ds := _) (vs := _) ⟨G, F, F1 ++ F2, J.pushL ry⟩ hl2 hp (.lst _) (fun G H' F e r => (show Rp K G H' (.lst true _) _ _ from ⟨_, _, F, rfl, e, rfl, r⟩))
      simpa only [List.append_assoc] using this
    | tup ry hp =>
      refine k _ _ _ (Sub.laid hp) ?_ z
      have := SI.tup (ds := _) (vs := _) ⟨G, F, F1 ++ F2, J.pushL ry⟩ hl2 hp
      simpa only [List.append_assoc] using this
    | dK ry hp l n =>
      refine k _ _ _ (Sub.laid hp) ?_ z
      have := SI.laid (ds := _) (vs := _) ⟨G, F, F1 ++ F2, J.pushL ry⟩ hl2 hp (.dK _) (fun G H' F e r => (show Rp K G H' (.dK true _ _) _ _ from ⟨_, _, F, rfl, e, rfl, l, n, r⟩))
      simpa only [List.append_assoc] using this
    | dT ry hp l n =>
      refine k _ _ _ (Sub.laid hp) ?_ z
      have := SI.laid (ds := _) (vs := _) ⟨G, F, F1 ++ F2, J.pushL ry⟩ hl2 hp (.dT _) (fun G H' F e r => (show Rp K G H' (.dT true _ _) _ _ from ⟨_, _, F, rfl, e, rfl, l, n, r⟩))
      simpa only [List.append_assoc] using this
theorem kzip_len {ks : List Kc} {vs : List V} (h : ks.length = vs.length) : (kzip ks vs).length = vs.length := by
  unfold kzip; rw [List.length_zip, List.length_map, h, Nat.min_self]
theorem tzip_len {ks : List (List Kc)} {vs : List V} (h : ks.length = vs.length) : (tzip ks vs).length = vs.length := by
  unfold tzip; rw [List.length_zip, List.length_map, h, Nat.min_self]
def seqD : D → Option (List D)
  | .lst _ ds => some ds
  | .tup ds => some ds
  | _ => none
theorem Rp.seqD {K : PySem.W.Frag} {G H : Hp} (hs : Sub G H) {d : D} {v : V} {F : List Addr} {ds : List D} (r : Rp K G H d v F) (h : VL.seqD d = some ds) : ∃ p vs F', v = .ref p ∧ (SqL K H p vs ∨ SqT K H p vs) ∧ RpL K G H ds vs F' := by
  cases d with
  | lst m xs =>
    cases h
    cases m with
    | false => obtain ⟨a, vs, rfl, s, rfl, r⟩ := r; exact ⟨a, vs, _, rfl, .inl (hs.sqL s), r⟩
    | true => obtain ⟨a, vs, F', rfl, s, rfl, r⟩ := r; exact ⟨a, vs, _, rfl, .inl (SqL.of s), r⟩
  | tup xs =>
    cases h
    obtain ⟨a, vs, rfl, s, r⟩ := r
    exact ⟨a, vs, _, rfl, .inr (SqT.of (hs _ _ s)), r⟩
  | _ => cases h
def seqP : D → Option (List D)
  | .pin _ (.lst m ds) => some ds
  | d => seqD d
theorem Rp.seqP {K : PySem.W.Frag} {G H : Hp} (hs : Sub G H) {d : D} {v : V} {F : List Addr} {ds : List D} (r : Rp K G H d v F) (h : VL.seqP d = some ds) : ∃ p vs F', v = .ref p ∧ (SqL K H p vs ∨ SqT K H p vs) ∧ RpL K G H ds vs F' := by
  cases d with
  | pin u c =>
    obtain ⟨rfl, r⟩ := r
    cases c with
    | lst m xs =>
      cases h
      exact r.seqD hs rfl
    | _ => cases h
  | lst m xs => exact r.seqD hs h
  | tup xs => exact r.seqD hs h
  | _ => cases h
def lenD : D → Option Nat
  | .str s => if s.length < 1000000 then some s.length else none
  | .lst _ ds => some ds.length
  | .tup ds => some ds.length
  | .dK _ _ ds => some ds.length
  | .dT _ _ ds => some ds.length
  | _ => none
def sLen : List D → (D → Prop) → Prop := fun ds Q => ∃ x n, ds = [x] ∧ lenD x = some n ∧ Q (.int n)
def rLenA (K : PySem.W.Frag) : List V → Hp → VK → Prop := fun xs H Q => (∃ x n, xs = [x] ∧ LenV K x H n ∧ Q (.int n) H) ∨ (∃ a kvs, xs = [V.ref a] ∧ Rd H a (.dK kvs) ∧ Q (.int kvs.length) H) ∨ rLenT xs H Q
theorem call_lenR {X : Cx} : CallR X (.builtin "len") (fun xs H Q => ∃ a kvs, xs = [V.ref a] ∧ Rd H a (.dK kvs) ∧ Q (.int kvs.length) H) := by
  intro pins s σ H xs us Q I r h
  obtain ⟨a, kvs, rfl, e, q⟩ := h
  obtain ⟨u, rfl, ru⟩ := vals1 r
  cases ru
  exact d_len I e fun t s' J => ⟨.int kvs.length, H, J, ⟨t, rfl⟩, q⟩
theorem call_lenA {X : Cx} : CallR X (.builtin "len") (rLenA X.K) := CallR.or call_len (CallR.or call_lenR call_len_dT)
theorem toS_len (s : Cs) : (toS s).length = s.length := by
  show (toS s).cps.size = s.length
  simp [toS]
theorem opn_len {K : PySem.W.Frag} : OpN K (rLenA K) sLen := OpN.pure fun G H ds vs F Q Q' hs r q k => by
  obtain ⟨x, n, rfl, hn, q⟩ := q
  obtain ⟨v, rfl, rx⟩ := r.one'
  have fin : Q' (.int n) H := k (.int n) _ (fun _ _ _ => ⟨rfl, rfl⟩) q
  cases x with
  | str s =>
    obtain ⟨rfl, _⟩ := rx
    by_cases hz : s.length < 1000000
    · have hn : (if s.length < 1000000 then some s.length else none) = some n := hn
      rw [if_pos hz] at hn
      cases hn
      exact .inl ⟨_, s.length, rfl, ⟨by rw [toS_len]; exact Nat.le_of_lt (k1m hz), (toS_len s).symm⟩, fin⟩
    · have hn : (if s.length < 1000000 then some s.length else none) = some n := hn
      rw [if_neg hz] at hn
      cases hn
  | lst m xs =>
    cases hn
    obtain ⟨p, us, F', rfl, hq, rl⟩ := rx.seqD hs rfl
    rw [rl.len] at fin
    refine .inl ⟨_, us.length, rfl, ?_, fin⟩
    rcases hq with hq | hq
    · exact .inl ⟨us, hq, rfl⟩
    · exact .inr ⟨us, hq, rfl⟩
  | tup xs =>
    cases hn
    obtain ⟨p, us, F', rfl, hq, rl⟩ := rx.seqD hs rfl
    rw [rl.len] at fin
    refine .inl ⟨_, us.length, rfl, ?_, fin⟩
    rcases hq with hq | hq
    · exact .inl ⟨us, hq, rfl⟩
    · exact .inr ⟨us, hq, rfl⟩
  | dK m ks xs =>
    cases hn
    have : ∃ a us F', v = .ref a ∧ Rd H a (.dK (kzip ks us)) ∧ ks.length = xs.length ∧ RpL K G H xs us F' := by
      cases m with
      | false => obtain ⟨a, us, e, s, _, l, _, r⟩ := rx; exact ⟨a, us, _, e, hs.rd s, l, r⟩
      | true => obtain ⟨a, us, F', e, s, _, l, _, r⟩ := rx; exact ⟨a, us, _, e, .inl s, l, r⟩
    obtain ⟨a, us, F', rfl, e, l, rl⟩ := this
    refine .inr (.inl ⟨a, _, rfl, e, ?_⟩)
    rw [kzip_len (l.trans rl.len), ← rl.len]
    exact fin
  | dT m ks xs =>
    cases hn
    have : ∃ a us F', v = .ref a ∧ H a = some (.dT (tzip ks us)) ∧ ks.length = xs.length ∧ RpL K G H xs us F' := by
      cases m with
      | false => obtain ⟨a, us, e, s, _, l, _, r⟩ := rx; exact ⟨a, us, _, e, hs _ _ s, l, r⟩
      | true => obtain ⟨a, us, F', e, s, _, l, _, r⟩ := rx; exact ⟨a, us, _, e, s, l, r⟩
    obtain ⟨a, us, F', rfl, e, l, rl⟩ := this
    refine .inr (.inr ⟨a, _, rfl, e, ?_⟩)
    rw [tzip_len (l.trans rl.len), ← rl.len]
    exact fin
  | _ => cases hn
def rIxD : R2 := fun x y H Q => ∃ a v, x = .ref a ∧ DGet H a y (some v) ∧ Q v H
theorem ix_dict {X : Cx} (hu : X.A.units + 1 < cLine) : IxR X rIxD := by
  intro value slice pins s σ H x y v u Q I rx ry h hs
  obtain ⟨a, z, rfl, g, q⟩ := h
  obtain rfl : v = Value.ref a := rx
  exact tail_any (dict_typeIs I g) slot_dict_getitem.lookup (d_getItem hu I g ry fun w' s' I' rw' => ⟨z, H, I', rw', q⟩) hs
def rIxA (K : PySem.W.Frag) : R2 := fun x y H Q => rIx K x y H Q ∨ rIxD x y H Q
theorem ix_any {X : Cx} {k : Nat} (hr : Room k X.A) : IxR X (rIxA X.K) := ix_seq.or (ix_dict (by have := hr.units; omega))
/-- a subscript: the item, which stands still -/
def ixD : D → D → Option D
  | .str s, .int i => if s.length < 1000000 then (ixN s.length i).bind fun j => (s[j]?).map fun c => .str [c] else none
  | c, k => getD c k
def sIx : List D → (D → Prop) → Prop := fun ds Q => ∃ c k d, ds = [c, k] ∧ ixD c k = some d ∧ isFz d = true ∧ Q d
theorem RpL.at {K : PySem.W.Frag} {G H : Hp} {ds : List D} {vs : List V} {F : List Addr} {j : Nat} {d : D} (r : RpL K G H ds vs F) (h : ds[j]? = some d) (z : isFz d = true) : ∃ v, vs[j]? = some v ∧ Rp K G H d v [] := by
  obtain ⟨v, A, B, C, hv, rfl, rv, _⟩ := r.focus h
  have := rv.fz z
  subst this
  exact ⟨v, hv, rv⟩
theorem Rp.fzUp {K : PySem.W.Frag} {G H G' H' : Hp} {d : D} {v : V} (r : Rp K G H d v []) (s : Sub G G') : Rp K G' H' d v [] := r.mono s fun _ z => nomatch z
theorem getD_run {K : PySem.W.Frag} {G H : Hp} (hs : Sub G H) {c k d : D} {v w : V} {F1 F2 : List Addr} (rc : Rp K G H c v F1) (rk : Rp K G H k w F2) (h : getD c k = some d) (z : isFz d = true) :
    ∃ u, Rp K G H d u [] ∧ ∀ Q : VK, Q u H → rIxA K v w H Q := by
  have seq : ∀ (ds : List D) (i : Int), VL.seqP c = some ds → k = .int i → ((ixN ds.length i).bind fun j => ds[j]?) = some d → ∃ u, Rp K G H d u [] ∧ ∀ Q : VK, Q u H → rIxA K v w H Q := by
    intro ds i e1 e2 e3
    subst e2
    obtain ⟨p, vs, F', rfl, hq, rl⟩ := rc.seqP hs e1
    obtain ⟨rfl, _⟩ := rk
    cases hj : ixN ds.length i with
    | none => rw [hj] at e3; cases e3
    | some j =>
      rw [hj] at e3
      have e3 : ds[j]? = some d := e3
      obtain ⟨u, hu, ru⟩ := rl.at e3 z
      have ha : atI vs i = some u := by
        unfold atI
        rw [← rl.len, hj]
        exact hu
      refine ⟨u, ru, fun Q q => ?_⟩
      rcases hq with hq | hq
      · exact .inl (.inl ⟨p, vs, i, u, rfl, rfl, hq, ha, q⟩)
      · exact .inl (.inr (.inl ⟨p, vs, i, u, rfl, rfl, hq, ha, q⟩))
  cases c with
  | lst m ds => cases k <;> first | exact seq ds _ rfl rfl h | cases h
  | pin u c1 =>
    cases c1 with
    | lst m ds => cases k <;> first | exact seq ds _ rfl rfl h | cases h
    | _ => cases h
  | tup ds => cases k <;> first | exact seq ds _ rfl rfl h | cases h
  | dK m ks xs =>
    have : ∃ a us F', v = .ref a ∧ Rd H a (.dK (kzip ks us)) ∧ ks.length = xs.length ∧ RpL K G H xs us F' := by
      cases m with
      | false => obtain ⟨a, us, e, s, _, l, _, r⟩ := rc; exact ⟨a, us, _, e, hs.rd s, l, r⟩
      | true => obtain ⟨a, us, F', e, s, _, l, _, r⟩ := rc; exact ⟨a, us, _, e, .inl s, l, r⟩
    obtain ⟨a, us, F', rfl, e, l, rl⟩ := this
    have h : ((keyD k).bind fun k => (kIx ks k).bind fun j => xs[j]?) = some d := h
    cases hk : keyD k with
    | none => rw [hk] at h; cases h
    | some k0 =>
      rw [hk] at h
      have h : ((kIx ks k0).bind fun j => xs[j]?) = some d := h
      cases hj : kIx ks k0 with
      | none => rw [hj] at h; cases h
      | some j =>
        rw [hj] at h
        obtain ⟨u, hu, ru⟩ := rl.at h z
        obtain ⟨rfl, _⟩ := rk.keyD hk
        refine ⟨u, ru, fun Q q => .inr ⟨a, u, rfl, ?_, q⟩⟩
        have : DGet H a (kV (kc k0)) (valV (kzip ks us) (kc k0)) := .inl ⟨_, _, e, rfl, rfl⟩
        rw [kzip_val (l.trans rl.len), hj] at this
        have e5 : ((some j).bind fun j => us[j]?) = some u := hu
        rw [e5] at this
        exact this
  | dT m ks xs =>
    have : ∃ a us F', v = .ref a ∧ H a = some (.dT (tzip ks us)) ∧ ks.length = xs.length ∧ RpL K G H xs us F' := by
      cases m with
      | false => obtain ⟨a, us, e, s, _, l, _, r⟩ := rc; exact ⟨a, us, _, e, hs _ _ s, l, r⟩
      | true => obtain ⟨a, us, F', e, s, _, l, _, r⟩ := rc; exact ⟨a, us, _, e, s, l, r⟩
    obtain ⟨a, us, F', rfl, e, l, rl⟩ := this
    have h : ((keyT k).bind fun k => (kIx ks k).bind fun j => xs[j]?) = some d := h
    cases hk : keyT k with
    | none => rw [hk] at h; cases h
    | some k0 =>
      rw [hk] at h
      have h : ((kIx ks k0).bind fun j => xs[j]?) = some d := h
      cases hj : kIx ks k0 with
      | none => rw [hj] at h; cases h
      | some j =>
        rw [hj] at h
        obtain ⟨u, hu, ru⟩ := rl.at h z
        obtain ⟨kb, rfl, hkb, _⟩ := rk.keyT hs hk
        refine ⟨u, ru, fun Q q => .inr ⟨a, u, rfl, ?_, q⟩⟩
        have := DGet.t (k := tkc k0) e hkb
        rw [tzip_val (l.trans rl.len), hj] at this
        have e5 : ((some j).bind fun j => us[j]?) = some u := hu
        rw [e5] at this
        exact this
  | _ => cases h
theorem opn_ix {K : PySem.W.Frag} : OpN K (r2N (rIxA K)) sIx := OpN.pure fun G H ds vs F Q Q' hs r q k => by
  obtain ⟨c, kk, d, rfl, hd, hz, q⟩ := q
  obtain ⟨v, w, F1, F2, rfl, rc, rk⟩ := r.two
  refine ⟨v, w, rfl, ?_⟩
  have gen : getD c kk = some d → rIxA K v w H Q' := fun h => by
    obtain ⟨u, ru, go⟩ := getD_run hs rc rk h hz
    exact go Q' (k d u (fun G' H' s => ru.fzUp s) q)
  cases c with
  | str s =>
    cases kk with
    | int i =>
      have hd : (if s.length < 1000000 then (ixN s.length i).bind fun j => (s[j]?).map fun c => D.str [c] else none) = some d := hd
      by_cases hl : s.length < 1000000
      · rw [if_pos hl] at hd
        cases hj : ixN s.length i with
        | none => rw [hj] at hd; cases hd
        | some j =>
          rw [hj] at hd
          have hd : (s[j]?).map (fun c => D.str [c]) = some d := hd
          cases hc : s[j]? with
          | none => rw [hc] at hd; cases hd
          | some c =>
            rw [hc] at hd
            cases hd
            obtain ⟨rfl, _⟩ := rc
            obtain ⟨rfl, _⟩ := rk
            refine .inl (.inr (.inr ⟨toS s, i, c, rfl, rfl, by rw [toS_len]; exact Nat.le_of_lt (k1m hl), ?_, k (.str [c]) _ (fun _ _ _ => ⟨rfl, rfl⟩) q⟩))
            unfold atI
            have e1 : (toS s).cps.toList = s := by simp [toS]
            rw [e1, hj]
            exact hc
      · rw [if_neg hl] at hd; cases hd
    | _ => cases hd
  | _ => exact gen hd
section
variable {X : Cv}
theorem ve_ix {a bb : Expr} {ra rb : Option Nat} {ta tb : VTE} {pos : Pos} {k : Nat} (hr : Room k X.A) (ha : VG X a ra ta) (hb : VG X bb rb tb) (hs : PlainIx bb) : VE X (.Subscript a bb pos) (vOp sIx [ra, rb] (va2 ta tb)) := by
  obtain ⟨ta', tb', h1, h2, h3⟩ := two_args ha hb
  refine ⟨fun W => tOp (rIxA X.K) (ta' W) (tb' W), fun W tk => pe_ix (ix_any hr) (h1 W tk) (h2 W tk) hs, fun b σ H ε T Tv W N Q Q' I q k x => ?_⟩
  exact h3 b σ H ε T Tv W N _ _ I q (fun x y v w ε' H' J hv hw z => two_run opn_ix I.lenT J hv hw z k) x
end
end VL
namespace VL
open PySem PySem.Spec PyProof.Rows L2 VL
def flatD : D → Bool
  | .non => true
  | .bl _ => true
  | .int _ => true
  | .str _ => true
  | _ => false
/-- whether x is in c, where it can be told -/
def memD (x : D) : D → Option Bool
  | .lst m ys => if flatD x && ys.all flatD then some (ys.any fun y => deq y x) else if okD 64 x && okD 64 (.lst m ys) then some (ys.any fun y => deq y x) else none
  | .tup ys => if flatD x && ys.all flatD then some (ys.any fun y => deq y x) else none
  | .dK _ ks _ => (keyD x).map fun k => (kIx ks k).isSome
  | .dT _ ks _ => (keyT x).map fun k => (kIx ks k).isSome
  | .str s => match x with | .str [c] => some (decide (c ∈ s)) | _ => none
  | _ => none
section
variable {K : PySem.W.Frag} {G H : Hp}
theorem Rp.flat {x : D} {v : V} {F : List Addr} (h : flatD x = true) (r : Rp K G H x v F) : flatV v = true := by
  cases x <;> first | (exfalso; revert h; simp [flatD]; done) | (obtain ⟨rfl, _⟩ := r; rfl)
theorem Rp.flatEq {x y : D} {v w : V} {F F' : List Addr} (hx : flatD x = true) (hy : flatD y = true) (r : Rp K G H x v F) (q : Rp K G H y w F') : eqV v w = deq x y := by
  cases x <;> cases y <;> first
    | (exfalso; revert hx; simp [flatD]; done)
    | (exfalso; revert hy; simp [flatD]; done)
    | (obtain ⟨rfl, _⟩ := r
       obtain ⟨rfl, _⟩ := q
       first | rfl | exact toS_beq _ _)
theorem RpL.flat : ∀ {ds : List D} {vs : List V} {F : List Addr}, ds.all flatD = true → RpL K G H ds vs F → vs.all flatV = true ∧ ∀ {x : D} {v : V} {F' : List Addr}, flatD x = true → Rp K G H x v F' → inV v vs = ds.any fun y => deq y x
  | [], vs, F, h, r => by
    obtain ⟨rfl, _⟩ := r
    exact ⟨rfl, fun _ _ => rfl⟩
  | d :: ds, vs, F, h, r => by
    obtain ⟨v, vs', F1, F2, rfl, rfl, rd, rs⟩ := r
    rw [List.all_cons, Bool.and_eq_true] at h
    obtain ⟨i1, i2⟩ := RpL.flat h.2 rs
    refine ⟨by rw [List.all_cons, rd.flat h.1, i1]; rfl, fun hx rx => ?_⟩
    show (eqV v _ || inV _ vs') = _
    rw [List.any_cons, rd.flatEq h.1 hx rx, i2 hx rx]
theorem any_pd {x : D} (hx : okD 64 x = true) : ∀ {n : Nat} {ys : List D}, okDL n ys = true → ((pdL ys).any fun z => PyData.eqv z (pd x)) = ys.any fun y => deq y x
  | n, [], _ => rfl
  | n, y :: ys, h => by
    obtain ⟨a1, a2⟩ := Bool.and_eq_true_iff.mp (show (okD n y && okDL n ys) = true by simpa [okDL] using h)
    show (PyData.eqv (pd y) (pd x) || _) = _
    rw [List.any_cons, deq_pd a1 hx, any_pd hx a2]
def rInX (K : PySem.W.Frag) (neg : Bool) : R2 := fun x y H Q => rIn K neg x y H Q ∨ (if neg then rNotInD K x y H Q else rInD K x y H Q) ∨ (∃ (c : Nat) (z : Str), x = .str ⟨#[c]⟩ ∧ y = .str z ∧ Q (.bl (if neg then !decide (c ∈ z.cps.toList) else decide (c ∈ z.cps.toList))) H) ∨
  ∃ a o, y = .ref a ∧ DGet H a x o ∧ Q (.bl (if neg then !o.isSome else o.isSome)) H
theorem opr_notIn {X : Cx} {k : Nat} (hr : Room k X.A) : OpR X (compareOp .NotIn) (rInX X.K true) := by
  refine OpR.or op_notIn_seq (OpR.or (op_notInD (by have := hr.un; omega)) (OpR.or op_notIn_sign ?_))
  intro pins s σ H x y v u Q I rx ry h
  obtain ⟨a, o, rfl, g, q⟩ := h
  obtain rfl : u = Value.ref a := ry
  exact d_notIn (by have := hr.units; omega) I g rx fun s' I' => ⟨.bl (!o.isSome), H, I', rfl, q⟩
def sIn (neg : Bool) : List D → (D → Prop) → Prop := fun ds Q => ∃ x c r, ds = [x, c] ∧ memD x c = some r ∧ Q (.bl (if neg then !r else r))
theorem mem_run (hs : Sub G H) {neg : Bool} {x c : D} {v w : V} {F1 F2 : List Addr} {r : Bool} {Q' : VK} (rx : Rp K G H x v F1) (rc : Rp K G H c w F2) (h : memD x c = some r) (q : Q' (.bl (if neg then !r else r)) H) : rInX K neg v w H Q' := by
  have flatS : ∀ ys, VL.seqD c = some ys → flatD x = true → ys.all flatD = true → (ys.any fun y => deq y x) = r → rInX K neg v w H Q' := by
    intro ys e hx hy e2
    obtain ⟨p, vs, F', rfl, hq, rl⟩ := rc.seqD hs e
    obtain ⟨i1, i2⟩ := rl.flat hy
    refine .inl ⟨p, vs, rfl, hq, rx.flat hx, i1, ?_⟩
    rw [i2 hx rx, e2]
    exact q
  cases c with
  | lst m ys =>
    have h : (if (flatD x && ys.all flatD) = true then some (ys.any fun y => deq y x) else if (okD 64 x && okD 64 (.lst m ys)) = true then some (ys.any fun y => deq y x) else none) = some r := h
    by_cases h1 : (flatD x && ys.all flatD) = true
    · rw [if_pos h1] at h
      obtain ⟨a1, a2⟩ := Bool.and_eq_true_iff.mp h1
      exact flatS ys rfl a1 a2 (Option.some.inj h)
    · rw [if_neg h1] at h
      by_cases h2 : (okD 64 x && okD 64 (.lst m ys)) = true
      · rw [if_pos h2] at h
        cases h
        obtain ⟨a1, a2⟩ := Bool.and_eq_true_iff.mp h2
        refine .inr (.inl ?_)
        have e3 : ((pdL ys).any fun z => PyData.eqv z (pd x)) = ys.any fun y => deq y x := any_pd a1 (n := 63) (by simpa [okD] using a2)
        cases neg with
        | true => exact ⟨pd x, pdL ys, rx.dp hs a1, rc.dp hs a2, shp a1, shp a2, by rw [e3]; exact q⟩
        | false => exact ⟨pd x, pdL ys, rx.dp hs a1, rc.dp hs a2, shp a1, shp a2, by rw [e3]; exact q⟩
      · rw [if_neg h2] at h; cases h
  | tup ys =>
    have h : (if (flatD x && ys.all flatD) = true then some (ys.any fun y => deq y x) else none) = some r := h
    by_cases h1 : (flatD x && ys.all flatD) = true
    · rw [if_pos h1] at h
      obtain ⟨a1, a2⟩ := Bool.and_eq_true_iff.mp h1
      exact flatS ys rfl a1 a2 (Option.some.inj h)
    · rw [if_neg h1] at h; cases h
  | str s =>
    cases x with
    | str cs =>
      match cs, h with
      | [c], h =>
        have h : some (decide (c ∈ s)) = some r := h
        cases h
        obtain ⟨rfl, _⟩ := rx
        obtain ⟨rfl, _⟩ := rc
        refine .inr (.inr (.inl ⟨c, toS s, rfl, rfl, ?_⟩))
        have e1 : (toS s).cps.toList = s := by simp [toS]
        rw [e1]
        exact q
    | _ => cases h
  | dK m ks xs =>
    have : ∃ a us F', w = .ref a ∧ Rd H a (.dK (kzip ks us)) ∧ ks.length = xs.length ∧ RpL K G H xs us F' := by
      cases m with
      | false => obtain ⟨a, us, e, s, _, l, _, r⟩ := rc; exact ⟨a, us, _, e, hs.rd s, l, r⟩
      | true => obtain ⟨a, us, F', e, s, _, l, _, r⟩ := rc; exact ⟨a, us, _, e, .inl s, l, r⟩
    obtain ⟨a, us, F', rfl, e, l, rl⟩ := this
    have h : ((keyD x).map fun k => (kIx ks k).isSome) = some r := h
    cases hk : keyD x with
    | none => rw [hk] at h; cases h
    | some k0 =>
      rw [hk] at h
      cases h
      obtain ⟨rfl, _⟩ := rx.keyD hk
      refine .inr (.inr (.inr ⟨a, _, rfl, (.inl ⟨_, kc k0, e, rfl, rfl⟩ : DGet H a (kV (kc k0)) _), ?_⟩))
      rw [kzip_val (l.trans rl.len)]
      have e5 : ((kIx ks k0).bind fun j => us[j]?).isSome = (kIx ks k0).isSome := by
        cases hj : kIx ks k0 with
        | none => rfl
        | some j =>
          have := kIx_lt hj
          have : j < us.length := by rw [← rl.len, ← l]; exact this
          simp [this]
      rw [e5]
      exact q
  | dT m ks xs =>
    have : ∃ a us F', w = .ref a ∧ H a = some (.dT (tzip ks us)) ∧ ks.length = xs.length ∧ RpL K G H xs us F' := by
      cases m with
      | false => obtain ⟨a, us, e, s, _, l, _, r⟩ := rc; exact ⟨a, us, _, e, hs _ _ s, l, r⟩
      | true => obtain ⟨a, us, F', e, s, _, l, _, r⟩ := rc; exact ⟨a, us, _, e, s, l, r⟩
    obtain ⟨a, us, F', rfl, e, l, rl⟩ := this
    have h : ((keyT x).map fun k => (kIx ks k).isSome) = some r := h
    cases hk : keyT x with
    | none => rw [hk] at h; cases h
    | some k0 =>
      rw [hk] at h
      cases h
      obtain ⟨kb, rfl, hkb, _⟩ := rx.keyT hs hk
      refine .inr (.inr (.inr ⟨a, _, rfl, DGet.t (k := tkc k0) e hkb, ?_⟩))
      rw [tzip_val (l.trans rl.len)]
      have e5 : ((kIx ks k0).bind fun j => us[j]?).isSome = (kIx ks k0).isSome := by
        cases hj : kIx ks k0 with
        | none => rfl
        | some j =>
          have := kIx_lt hj
          have : j < us.length := by rw [← rl.len, ← l]; exact this
          simp [this]
      rw [e5]
      exact q
  | _ => cases h
theorem opn_in {neg : Bool} : OpN K (r2N (rInX K neg)) (sIn neg) := OpN.pure fun G H ds vs F Q Q' hs r q k => by
  obtain ⟨x, c, z, rfl, hz, q⟩ := q
  obtain ⟨v, w, F1, F2, rfl, rx, rc⟩ := r.two
  exact ⟨v, w, rfl, mem_run hs rx rc hz (k (.bl _) _ (fun _ _ _ => ⟨rfl, rfl⟩) q)⟩
end
/-- list + list, any two that are read -/
def rCatR (K : PySem.W.Frag) : R2 := fun x y H Q => ∃ l c xs zs, x = .ref l ∧ y = .ref c ∧ SqL K H l xs ∧ SqL K H c zs ∧ xs.length + zs.length ≤ sizeLine ∧ ∀ p, H p = none → Q (.ref p) (upd H p (.lst (xs ++ zs)))
theorem op_catR {X : Cx} : OpR X (binaryOp .Add) (rCatR X.K) := by
  intro pins s σ H x y v u Q I rx ry h
  obtain ⟨l, c, xs, zs, rfl, rfl, hx, hy, hz, q⟩ := h
  cases rx
  cases ry
  obtain ⟨its, r, pl, hl⟩ := I.list hx
  obtain ⟨its2, r2, pl2, hl2⟩ := I.list hy
  obtain ⟨⟨cls, dd, data, sl⟩, ho, hc, n, hd⟩ := pl.isList
  obtain ⟨⟨cls2, dd2, data2, sl2⟩, ho2, hc2, n2, hd2⟩ := pl2.isList
  simp only at hc hd hc2 hd2
  subst hc hd hc2 hd2
  have e : its.toArray ++ its2.toArray = (its ++ its2).toArray := by simp
  refine concat_meets ⟨_, ho, rfl⟩ ⟨_, ho2, rfl⟩ noFill_list_add seq_list_add PySem.F.slot_list_add PySem.F.entry_list_add (PySem.F.args_list_add_2 _ _) (list_addW l c its.toArray its2.toArray n n2 dd dd2 sl sl2 (by have := r.length; have := r2.length; simp only [List.size_toArray]; omega)) ⟨ho, ho2, ?_⟩
  rw [e]
  refine ⟨.ref s.heap.objs.size, _, I.laid (t' := s.toks) (o := .lst (xs ++ zs)) (fun b ob q => Heap.get?_push_of_some _ q) (Nat.le_refl _) ?_, rfl, q _ (I.hok.fresh (Nat.le_refl _))⟩
  exact ⟨by rw [List.length_append]; exact hz, its ++ its2, 0, r.append r2, Heap.get?_push_size _ rfl⟩
end VL
namespace VL
open PySem PySem.Spec PyProof.Rows L2 VL
section
variable {K : PySem.W.Frag} {G H : Hp}
theorem toS_app (s t : Cs) : toS s ++ toS t = toS (s ++ t) := by
  show (⟨(toS s).cps ++ (toS t).cps⟩ : Str) = _
  simp [toS]
theorem nwI (i : Int) : Nw K G H (.int i) (.int i) H := .val fun _ _ _ => ⟨rfl, rfl⟩
theorem nwB (c : Bool) : Nw K G H (.bl c) (.bl c) H := .val fun _ _ _ => ⟨rfl, rfl⟩
theorem nwS (s : Cs) : Nw K G H (.str s) (.str (toS s)) H := .val fun _ _ _ => ⟨rfl, rfl⟩
/-- x + y -/
def addD : D → D → Option D
  | .int i, .int j => some (.int (i + j))
  | .str s, .str t => if s.length + t.length < 1000000 then some (.str (s ++ t)) else none
  | .lst _ xs, .lst _ ys => if (isFzL xs && isFzL ys) = true then (if xs.length + ys.length < 1000000 then some (.lst true (xs ++ ys)) else none) else none
  | .tup xs, .tup ys => if (isFzL xs && isFzL ys) = true then (if xs.length + ys.length < 1000000 then some (.tup (xs ++ ys)) else none) else none
  | _, _ => none
def rAddA (K : PySem.W.Frag) : R2 := fun x y H Q => rI0 (fun i j => .int (i + j)) x y H Q ∨ (∃ i j, x = .str i ∧ y = .str j ∧ i.length + j.length ≤ sizeLine ∧ Q (.str (i ++ j)) H) ∨ rCatR K x y H Q ∨ rCatA K x y H Q
theorem opr_add {X : Cx} : OpR X (binaryOp .Add) (rAddA X.K) := OpR.or op_add (OpR.or op_add_str (OpR.or op_catR op_catA))
def sAdd : List D → (D → Prop) → Prop := fun ds Q => ∃ x y d, ds = [x, y] ∧ addD x y = some d ∧ Q d
theorem opn_add : OpN K (r2N (rAddA K)) sAdd := OpN.mk fun G H ds vs F Q Q' hs r q k => by
  obtain ⟨x, y, d, rfl, h, q⟩ := q
  obtain ⟨v, w, F1, F2, rfl, rx, ry⟩ := r.two
  refine ⟨v, w, rfl, ?_⟩
  cases x with
  | int i =>
    cases y with
    | int j =>
      cases h
      obtain ⟨rfl, _⟩ := rx
      obtain ⟨rfl, _⟩ := ry
      exact .inl ⟨i, j, rfl, rfl, k _ _ _ (nwI _) q⟩
    | _ => cases h
  | str s =>
    cases y with
    | str t =>
      have h : (if s.length + t.length < 1000000 then some (D.str (s ++ t)) else none) = some d := h
      by_cases hz : s.length + t.length < 1000000
      · rw [if_pos hz] at h
        cases h
        obtain ⟨rfl, _⟩ := rx
        obtain ⟨rfl, _⟩ := ry
        refine .inr (.inl ⟨_, _, rfl, rfl, by rw [toS_len, toS_len]; exact Nat.le_of_lt (k1m hz), ?_⟩)
        rw [toS_app]
        exact k _ _ _ (nwS _) q
      · rw [if_neg hz] at h; cases h
    | _ => cases h
  | lst m xs =>
    cases y with
    | lst m2 ys =>
      have h : (if (isFzL xs && isFzL ys) = true then (if xs.length + ys.length < 1000000 then some (D.lst true (xs ++ ys)) else none) else none) = some d := h
      by_cases hf : (isFzL xs && isFzL ys) = true
      · rw [if_pos hf] at h
        by_cases hz : xs.length + ys.length < 1000000
        · rw [if_pos hz] at h
          cases h
          obtain ⟨f1, f2⟩ := Bool.and_eq_true_iff.mp hf
          have hx : ∃ a us, v = .ref a ∧ SqL K H a us ∧ RpL K G H xs us [] := by
            cases m with
            | false => obtain ⟨a, us, e, s, _, r⟩ := rx; exact ⟨a, us, e, hs.sqL s, r⟩
            | true => obtain ⟨a, us, F', e, s, _, r⟩ := rx; have := r.fz f1; subst this; exact ⟨a, us, e, SqL.of s, r⟩
          have hy : ∃ a us, w = .ref a ∧ SqL K H a us ∧ RpL K G H ys us [] := by
            cases m2 with
            | false => obtain ⟨a, us, e, s, _, r⟩ := ry; exact ⟨a, us, e, hs.sqL s, r⟩
            | true => obtain ⟨a, us, F', e, s, _, r⟩ := ry; have := r.fz f2; subst this; exact ⟨a, us, e, SqL.of s, r⟩
          obtain ⟨a, us, rfl, s1, r1⟩ := hx
          obtain ⟨a2, us2, rfl, s2, r2⟩ := hy
          refine .inr (.inr (.inl ⟨a, a2, us, us2, rfl, rfl, s1, s2, by rw [← r1.len, ← r2.len]; exact Nat.le_of_lt (k1m hz), fun p hp => k _ _ _ (.lst (by simpa using r1.append r2) hp) q⟩))
        · rw [if_neg hz] at h; cases h
      · rw [if_neg hf] at h; cases h
    | _ => cases h
  | tup xs =>
    cases y with
    | tup ys =>
      have h : (if (isFzL xs && isFzL ys) = true then (if xs.length + ys.length < 1000000 then some (D.tup (xs ++ ys)) else none) else none) = some d := h
      by_cases hf : (isFzL xs && isFzL ys) = true
      · rw [if_pos hf] at h
        by_cases hz : xs.length + ys.length < 1000000
        · rw [if_pos hz] at h
          cases h
          obtain ⟨f1, f2⟩ := Bool.and_eq_true_iff.mp hf
          obtain ⟨a, us, rfl, s1, r1⟩ := rx
          obtain ⟨a2, us2, rfl, s2, r2⟩ := ry
          have := r1.fz f1; subst this
          have := r2.fz f2; subst this
          have n1 : us = [] → xs = [] := fun z => by have := r1.len; subst z; simpa using this
          have n2 : us2 = [] → ys = [] := fun z => by have := r2.len; subst z; simpa using this
          refine .inr (.inr (.inr ⟨a, a2, us, us2, rfl, rfl, SqT.of (hs _ _ s1), SqT.of (hs _ _ s2), by rw [← r1.len, ← r2.len]; exact Nat.le_of_lt (k1m hz), fun z => ?_, fun z z2 => ?_, fun _ _ p hp => k _ _ _ (.tup (by simpa using r1.append r2) hp) q⟩))
          · have := n1 z
            subst this
            exact k (.tup ys) _ _ (.val fun G' H' s => ⟨a2, us2, rfl, s _ _ s2, r2.mono s fun _ z => nomatch z⟩) q
          · have := n2 z2
            subst this
            refine k _ _ _ (.val fun G' H' s => ?_) q
            rw [List.append_nil]
            exact ⟨a, us, rfl, s _ _ s1, r1.mono s fun _ z => nomatch z⟩
        · rw [if_neg hz] at h; cases h
      · rw [if_neg hf] at h; cases h
    | _ => cases h
  | _ => cases h
def rMulA : R2 := fun x y H Q => rI CMl (fun i j => .int (i * j)) x y H Q ∨ rRep x y H Q
theorem opr_mulA {X : Cx} : OpR X (binaryOp .Mult) rMulA := OpR.or opr_mul op_rep
/-- x * y: ints, or a list of our own that is repeated -/
def sMul : List D → (D → Prop) → Prop := fun ds Q => (∃ i j, ds = [.int i, .int j] ∧ CMl i j ∧ Q (.int (i * j))) ∨
  ∃ xs n, ds = [.lst true xs, .int n] ∧ isFzL xs = true ∧ n < 1000000 ∧ xs.length * n.toNat < 1000000 ∧ -1000000 < n ∧ Q (.lst true (List.replicate n.toNat xs).flatten)
theorem RpL.rep {xs : List D} {us : List V} (r : RpL K G H xs us []) : ∀ n : Nat, RpL K G H (List.replicate n xs).flatten (List.replicate n us).flatten []
  | 0 => ⟨rfl, rfl⟩
  | n + 1 => by
    rw [List.replicate_succ, List.replicate_succ, List.flatten_cons, List.flatten_cons]
    have := r.append (RpL.rep r n)
    simpa using this
theorem opn_mul : OpN K (r2N rMulA) sMul := OpN.mk fun G H ds vs F Q Q' hs r q k => by
  rcases q with ⟨i, j, rfl, hc, q⟩ | ⟨xs, n, rfl, f1, h1, h2, h3, q⟩
  · obtain ⟨v, w, F1, F2, rfl, ⟨rfl, _⟩, ⟨rfl, _⟩⟩ := r.two
    exact ⟨_, _, rfl, .inl ⟨i, j, rfl, rfl, hc, k _ _ _ (nwI _) q⟩⟩
  · obtain ⟨v, w, F1, F2, rfl, rx, ⟨rfl, _⟩⟩ := r.two
    obtain ⟨a, us, F', rfl, s, rfl, r⟩ := rx
    have := r.fz f1; subst this
    refine ⟨_, _, rfl, .inr ⟨a, n, us, rfl, rfl, s, by omega, by omega, by rw [← r.len]; exact Nat.le_of_lt (k1m h2), fun p hp => k _ _ _ (.lst (r.rep _) hp) q⟩⟩
theorem call_divmodA {X : Cx} : CallR X (.builtin "divmod") (fun xs H Q => ∃ i j, xs = [.int i, .int j] ∧ CDv i j ∧ ∀ p, H p = none → Q (.ref p) (upd H p (.tup [.int (i.fdiv j), .int (i.fmod j)]))) := by
  intro pins s σ H xs us Q I r h
  obtain ⟨i, j, rfl, ⟨h1, h2⟩, q⟩ := h
  obtain ⟨u, w', rfl, ⟨t, rfl⟩, ⟨t', rfl⟩⟩ := vals2 r
  refine divmod_int h1 ?_ (.inl (PyProof.noPylong_of_log2 h2))
  have hn : H s.heap.objs.size = none := I.hok.fresh (Nat.le_refl _)
  refine ⟨.ref s.heap.objs.size, _, ?_, rfl, q _ hn⟩
  refine I.laid (fun b o e => Heap.get?_push_of_some _ e) (Nat.le_refl _) ⟨by simp only [List.length_cons, List.length_nil]; rw [sizeLine_eq]; decide, [.int (i.fdiv j) s.toks, .int (i.fmod j) (s.toks + 1)], .cons ⟨_, rfl⟩ (.cons ⟨_, rfl⟩ .nil), ?_⟩
  exact ⟨_, Heap.get?_push_size s.heap rfl, rfl, 0, rfl⟩
def sDivmod : List D → (D → Prop) → Prop := fun ds Q => ∃ i j, ds = [.int i, .int j] ∧ CDv i j ∧ Q (.tup [.int (pdiv i j), .int (pmod i j)])
theorem opn_divmod : OpN K (fun xs H Q => ∃ i j, xs = [.int i, .int j] ∧ CDv i j ∧ ∀ p, H p = none → Q (.ref p) (upd H p (.tup [.int (i.fdiv j), .int (i.fmod j)]))) sDivmod := OpN.mk fun G H ds vs F Q Q' hs r q k => by
  obtain ⟨i, j, rfl, hc, q⟩ := q
  obtain ⟨v, w, F1, F2, rfl, ⟨rfl, _⟩, ⟨rfl, _⟩⟩ := r.two
  refine ⟨i, j, rfl, hc, fun p hp => ?_⟩
  rw [pmod_eq, pdiv_eq]
  exact k _ _ _ (.tup (ys := [.int (pdiv i j), .int (pmod i j)]) ⟨_, _, [], [], rfl, rfl, ⟨rfl, rfl⟩, _, _, [], [], rfl, rfl, ⟨rfl, rfl⟩, rfl, rfl⟩ hp) q
def tyNm : D → Option String
  | .non => some "NoneType"
  | .bl _ => some "bool"
  | .int _ => some "int"
  | .str _ => some "str"
  | .tup _ => some "tuple"
  | .lst _ _ => some "list"
  | .dK _ _ _ => some "dict"
  | .dT _ _ _ => some "dict"
  | _ => none
def tys : List String := ["int", "bool", "str", "list", "tuple", "dict"]
/-- the type t is T, or bool as an int -/
def isT (t T : String) : Bool := t == T || (t == "bool" && T == "int")
theorem kit_tab : (("NoneType" :: tys).all fun t => tys.all fun T => decide (kitB t T = some (isT t T))) = true := by decide +kernel
theorem kit_isT {t T : String} (ht : t ∈ "NoneType" :: tys) (hT : T ∈ tys) : kitB t T = some (isT t T) :=
  of_decide_eq_true (List.all_eq_true.mp (List.all_eq_true.mp kit_tab t ht) T hT)
theorem tyNm_mem {d : D} {t : String} (h : tyNm d = some t) : t ∈ "NoneType" :: tys := by
  cases d <;> simp only [tyNm, reduceCtorEq, Option.some.injEq] at h <;> subst h <;> decide
theorem Rp.tyX (hs : Sub G H) {d : D} {v : V} {F : List Addr} {t : String} (r : Rp K G H d v F) (h : tyNm d = some t) : TyX K H v (.type t) := by
  cases d with
  | non => cases h; obtain ⟨rfl, _⟩ := r; exact .base .non
  | bl b => cases h; obtain ⟨rfl, _⟩ := r; exact .base (.bl b)
  | int i => cases h; obtain ⟨rfl, _⟩ := r; exact .base (.int i)
  | str s => cases h; obtain ⟨rfl, _⟩ := r; exact .base (.str _)
  | tup xs => cases h; obtain ⟨a, vs, rfl, s, _⟩ := r; exact .base (.tup (hs _ _ s))
  | lst m xs =>
    cases h
    cases m with
    | true => obtain ⟨a, vs, F', rfl, s, _⟩ := r; exact .base (.lst s)
    | false =>
      obtain ⟨a, vs, rfl, s, _⟩ := r
      rcases hs.sqL s with (s | ⟨o, s⟩) | ⟨o, its, n, hk, hc, _⟩
      · exact .base (.lst s)
      · exact .base (.frz s)
      · exact .kList hk hc
  | dK m ks xs =>
    cases h
    cases m with
    | true => obtain ⟨a, vs, F', rfl, s, _⟩ := r; exact .base (.dK s)
    | false =>
      obtain ⟨a, vs, rfl, s, _⟩ := r
      rcases hs.rd s with s | ⟨o, s⟩
      · exact .base (.dK s)
      · exact .fDict s
  | dT m ks xs =>
    cases h
    cases m with
    | true => obtain ⟨a, vs, F', rfl, s, _⟩ := r; exact .base (.dT s)
    | false => obtain ⟨a, vs, rfl, s, _⟩ := r; exact .base (.dT (hs _ _ s))
  | _ => cases h
def sIsi : List D → (D → Prop) → Prop := fun ds Q => ∃ x t T, ds = [x, .ty T] ∧ tyNm x = some t ∧ T ∈ tys ∧ Q (.bl (isT t T))
theorem opn_isi : OpN K (rIsi K) sIsi := OpN.mk fun G H ds vs F Q Q' hs r q k => by
  obtain ⟨x, t, T, rfl, ht, hT, q⟩ := q
  obtain ⟨v, w, F1, F2, rfl, rx, ⟨rfl, _⟩⟩ := r.two
  exact ⟨v, .ty T, .type t, .type T, isT t T, rfl, .ty T, rx.tyX hs ht, kit_ty (kit_isT (tyNm_mem ht) hT), k _ _ _ (nwB _) q⟩
def listD : D → Option (List D)
  | .dK _ ks _ => some (ks.map fun | .inl i => .int i | .inr s => .str s)
  | d => seqD d
def sList : List D → (D → Prop) → Prop := fun ds Q => ∃ x ys, ds = [x] ∧ listD x = some ys ∧ isFzL ys = true ∧ Q (.lst true ys)
def sTuple : List D → (D → Prop) → Prop := fun ds Q => ∃ x ys, ds = [x] ∧ seqD x = some ys ∧ isFzL ys = true ∧ Q (.tup ys)
def sDict : List D → (D → Prop) → Prop := fun ds Q => ∃ m ks ys, ds = [.dK m ks ys] ∧ isFzL ys = true ∧ Q (.dK true ks ys)
theorem opn_dict : OpN K (fun xs H Q => ∃ (a : Addr) (kvs : List (Key × V)), xs = [.ref a] ∧ Rd H a (.dK kvs) ∧ ∀ p, H p = none → Q (.ref p) (upd H p (.dK kvs))) sDict := OpN.mk fun G H ds vs F Q Q' hs r q k => by
  obtain ⟨m, ks, ys, rfl, hf, q⟩ := q
  obtain ⟨v, rfl, rx⟩ := r.one'
  have : ∃ a us, v = .ref a ∧ Rd H a (.dK (kzip ks us)) ∧ ks.length = ys.length ∧ ks.Nodup ∧ RpL K G H ys us [] := by
    cases m with
    | false => obtain ⟨a, us, e, s, _, l, n, r⟩ := rx; exact ⟨a, us, e, hs.rd s, l, n, r⟩
    | true => obtain ⟨a, us, F', e, s, _, l, n, r⟩ := rx; have := r.fz hf; subst this; exact ⟨a, us, e, .inl s, l, n, r⟩
  obtain ⟨a, us, rfl, e, l, n, rl⟩ := this
  exact ⟨a, _, rfl, e, fun p hp => k _ _ _ (.dK rl hp l n) q⟩
def sMin : List D → (D → Prop) → Prop := fun ds Q => ∃ i j : Int, ds = [.int i, .int j] ∧ Q (.int (min i j))
def sMax : List D → (D → Prop) → Prop := fun ds Q => ∃ i j : Int, ds = [.int i, .int j] ∧ Q (.int (max i j))
theorem opn_min : OpN K (fun xs H Q => ∃ i j, xs = [.int i, .int j] ∧ Q (.int (if j < i then j else i)) H) sMin := OpN.mk fun G H ds vs F Q Q' hs r q k => by
  obtain ⟨i, j, rfl, q⟩ := q
  obtain ⟨v, w, F1, F2, rfl, ⟨rfl, _⟩, ⟨rfl, _⟩⟩ := r.two
  refine ⟨i, j, rfl, ?_⟩
  have e : (if j < i then j else i) = min i j := by split <;> omega
  rw [e]
  exact k _ _ _ (nwI _) q
def sInt : List D → (D → Prop) → Prop := fun ds Q => (∃ i, ds = [.int i] ∧ Q (.int i)) ∨ ∃ b, ds = [.bl b] ∧ Q (.int (if b then 1 else 0))
theorem opn_int : OpN K (fun xs H Q => (∃ i, xs = [.int i] ∧ Q (.int i) H) ∨ ∃ k, xs = [.bl k] ∧ Q (.int (if k then 1 else 0)) H) sInt := OpN.mk fun G H ds vs F Q Q' hs r q k => by
  rcases q with ⟨i, rfl, q⟩ | ⟨b, rfl, q⟩
  · obtain ⟨v, rfl, rfl, _⟩ := r.one'
    exact .inl ⟨i, rfl, k _ _ _ (nwI _) q⟩
  · obtain ⟨v, rfl, rfl, _⟩ := r.one'
    exact .inr ⟨b, rfl, k _ _ _ (nwI _) q⟩
end
section
variable {X : Cv}
/-- a built-in type by its name -/
theorem ve_ty {x : Str} {T : String} {pos : Pos} (hg : Gl X.toCx x) (hm : X.mg x = none) (hv : bootBuiltins x = some (.type T)) (hn : x ≠ "__name__" := by decide) (hd : (x == ("__debug__" : Str)) = false := by decide) : VE X (.Name x pos) (vC (.ty T)) :=
  vc_of (pe_bltn hg hm hv (v := .ty T) rfl hn hd) fun _ _ => ⟨rfl, rfl⟩
end
end VL
namespace VL
open PySem PySem.Spec PyProof.Rows L2 VL
def forgetE : List Nat → Ep → Ep
  | [], ε => ε
  | i :: is, ε => forgetE is (ε.set i none)
def pull : List Nat → Ep → List (Option Nat) × List D × Ep
  | [], ε => ([], [], ε)
  | i :: is, ε => match ε[i]? with
    | some (some d) => let r := pull is (ε.set i none); (some i :: r.1, d :: r.2.1, r.2.2)
    | _ => pull is ε
theorem wipe_get {σ : L2.St} {j : Nat} : ∀ {vs : List Nat}, (wipe σ vs)[j]? = if j ∈ vs then (σ[j]?).map fun _ => none else σ[j]?
  | [] => by simp [wipe]
  | v :: vs => by
    unfold wipe
    by_cases h : v = j
    · subst h
      rw [List.getElem?_set_self', wipe_get]
      simp only [List.mem_cons, true_or, if_true]
      split <;> cases σ[v]? <;> rfl
    · rw [List.getElem?_set_ne h, wipe_get]
      have : j ≠ v := fun e => h e.symm
      simp [this]
theorem wipe_set {σ : L2.St} {i : Nat} {x : Option V} {vs : List Nat} (h : i ∈ vs) : wipe (σ.set i x) vs = wipe σ vs := by
  apply List.ext_getElem?
  intro j
  rw [wipe_get, wipe_get]
  by_cases e : i = j
  · subst e
    rw [if_pos h, if_pos h, List.getElem?_set_self']
    cases σ[i]? <;> rfl
  · rw [List.getElem?_set_ne e]
theorem wipe_wipe {σ : L2.St} {vs : List Nat} : wipe (wipe σ vs) vs = wipe σ vs := by
  apply List.ext_getElem?
  intro j
  rw [wipe_get, wipe_get]
  split
  · cases σ[j]? <;> rfl
  · rfl
section
variable {K : PySem.W.Frag} {b : Bs} {σ : L2.St} {H H' : Hp} {ε : Ep} {T : List D} {Tv : List V}
/-- a slot is told no more -/
theorem SI.forget1 (I : SI K b σ H ε T Tv) (i : Nat) : SI K b σ H (ε.set i none) T Tv := by
  by_cases hi : i < ε.length
  · obtain ⟨G, F, Ft, J⟩ := I
    obtain ⟨ov, A, B, C, hs, rfl, r, back⟩ := J.slots.focus (i := i) (List.getElem?_eq_getElem hi)
    have s2 := back G H none ov [] Sub.refl (fun _ _ => rfl) rfl
    rw [setSelf hs, List.append_nil] at s2
    have sb : ∀ a, a ∈ A ++ C ++ Ft → a ∈ A ++ B ++ C ++ Ft := fun a z => by
      simp only [List.mem_append] at z ⊢
      grind
    have nd : (A ++ C ++ Ft).Nodup := by
      have h1 : (A ++ B ++ C ++ Ft).Perm (B ++ (A ++ C ++ Ft)) := by
        apply List.perm_iff_count.mpr
        intro a
        simp only [List.count_append]
        omega
      exact (List.nodup_append.mp (h1.nodup_iff.mp J.nd)).2.1
    exact ⟨G, _, Ft, J.s0, J.sub, s2, J.temps, nd, fun a z => J.fr a (sb a z), fun a z => J.own a (sb a z), J.gn, J.keep, J.kept⟩
  · rw [List.set_eq_of_length_le (by omega)]
    exact I
theorem SI.forget : ∀ {is : List Nat} {ε : Ep}, SI K b σ H ε T Tv → SI K b σ H (forgetE is ε) T Tv
  | [], ε, I => I
  | i :: is, ε, I => SI.forget (is := is) (I.forget1 i)
theorem forgetE_get {j : Nat} : ∀ {is : List Nat} {ε : Ep}, (forgetE is ε)[j]? = if j ∈ is then (ε[j]?).map fun _ => none else ε[j]?
  | [], ε => by simp [forgetE]
  | i :: is, ε => by
    unfold forgetE
    rw [forgetE_get]
    by_cases h : i = j
    · subst h
      simp only [List.mem_cons, true_or, if_true, List.getElem?_set_self']
      split <;> cases ε[i]? <;> rfl
    · rw [List.getElem?_set_ne h]
      have : j ≠ i := fun e => h e.symm
      simp [this]
theorem SI.pull (hl : T.length = Tv.length) : ∀ {is : List Nat} {ε : Ep} {R : List D} {Rv : List V}, R.length = Rv.length → SI K b σ H ε (T ++ R) (Tv ++ Rv) →
    ∃ vs, SI K b σ H (VL.pull is ε).2.2 (T ++ (R ++ (VL.pull is ε).2.1)) (Tv ++ (Rv ++ vs)) ∧ Held σ (VL.pull is ε).1 vs ∧ (VL.pull is ε).2.1.length = vs.length ∧ (∀ j, (VL.pull is ε).2.2[j]? = if j ∈ is then (ε[j]?).map fun _ => none else ε[j]?)
  | [], ε, R, Rv, hr, I => ⟨[], by simpa [VL.pull] using I, trivial, rfl, fun j => by simp [VL.pull]⟩
  | i :: is, ε, R, Rv, hr, I => by
    unfold VL.pull
    cases e : ε[i]? with
    | none =>
      obtain ⟨vs, J, hh, hl2, hg⟩ := SI.pull hl (is := is) hr I
      refine ⟨vs, J, hh, hl2, fun j => ?_⟩
      show (VL.pull is ε).2.2[j]? = _
      rw [hg]
      by_cases h : j = i
      · subst h
        rw [e]
        simp
      · simp [h]
    | some od =>
      cases od with
      | none =>
        obtain ⟨vs, J, hh, hl2, hg⟩ := SI.pull hl (is := is) hr I
        refine ⟨vs, J, hh, hl2, fun j => ?_⟩
        show (VL.pull is ε).2.2[j]? = _
        rw [hg]
        by_cases h : j = i
        · subst h
          rw [e]
          simp
        · simp [h]
      | some d =>
        obtain ⟨v, hs, J⟩ := I.mov e
        obtain ⟨vs, J2, hh, hl2, hg⟩ := SI.pull hl (is := is) (R := R ++ [d]) (Rv := Rv ++ [v]) (by simp [hr]) (by simpa only [List.append_assoc] using J)
        refine ⟨v :: vs, ?_, ⟨hs, hh⟩, by simp [hl2], fun j => ?_⟩
        · simpa only [List.append_assoc, List.cons_append, List.nil_append] using J2
        · show (VL.pull is (ε.set i none)).2.2[j]? = _
          rw [hg]
          by_cases h : i = j
          · subst h
            simp only [List.mem_cons, true_or, if_true, List.getElem?_set_self']
            split <;> cases ε[i]? <;> rfl
          · rw [List.getElem?_set_ne h]
            have : j ≠ i := fun e => h e.symm
            simp [this]
/-- slots that are not told may hold anything -/
theorem RpS.reslot {G : Hp} : ∀ {ε : Ep} {σ σ' : L2.St} {F : List Addr}, RpS K G H ε σ F → σ'.length = σ.length → (∀ (j : Nat) d, ε[j]? = some (some d) → σ'[j]? = σ[j]?) → RpS K G H ε σ' F
  | [], σ, σ', F, h, hl, _ => by
    obtain ⟨rfl, rfl⟩ := h
    exact ⟨List.length_eq_zero_iff.mp hl, rfl⟩
  | od :: ε, σ, σ', F, h, hl, k => by
    obtain ⟨ov, σ1, F1, F2, rfl, rfl, r, rs⟩ := h
    cases σ' with
    | nil => cases hl
    | cons ov' σ'' =>
      refine ⟨ov', σ'', F1, F2, rfl, rfl, ?_, RpS.reslot rs (Nat.succ.inj hl) fun j d e => by simpa using k (j + 1) d (by simpa using e)⟩
      cases od with
      | none => exact r
      | some d =>
        have := k 0 d rfl
        simp at this
        rw [this]
        exact r
theorem SI.reslot {σ' : L2.St} (I : SI K b σ H ε T Tv) (hl : σ'.length = σ.length) (h : ∀ (j : Nat) d, ε[j]? = some (some d) → σ'[j]? = σ[j]?) (hk : ∀ (j : Nat) v, b.kv[j]? = some (some v) → σ'[j]? = σ[j]?) : SI K b σ' H ε T Tv := by
  obtain ⟨G, F, Ft, J⟩ := I
  exact ⟨G, F, Ft, J.s0, J.sub, J.slots.reslot hl h, J.temps, J.nd, J.fr, J.own, J.gn, J.keep, fun j v e => (hk j v e).trans (J.kept j v e)⟩
/-- held things change places -/
theorem SI.swap {A B C : List D} {Av Bv Cv : List V} (I : SI K b σ H ε (T ++ (A ++ (B ++ C))) (Tv ++ (Av ++ (Bv ++ Cv)))) (hl : T.length = Tv.length) (ha : A.length = Av.length) (hb : B.length = Bv.length) : SI K b σ H ε (T ++ (B ++ (A ++ C))) (Tv ++ (Bv ++ (Av ++ Cv))) := by
  obtain ⟨G, F, Ft, J⟩ := I
  obtain ⟨F1, F2, rfl, r1, r2⟩ := J.temps.split2 hl
  obtain ⟨F3, F4, rfl, r3, r4⟩ := r2.split2 ha
  obtain ⟨F5, F6, rfl, r5, r6⟩ := r4.split2 hb
  have pm : (F ++ (F1 ++ (F3 ++ (F5 ++ F6)))).Perm (F ++ (F1 ++ (F5 ++ (F3 ++ F6)))) := by
    apply List.perm_iff_count.mpr
    intro z
    simp only [List.count_append]
    omega
  exact ⟨G, F, _, J.s0, J.sub, J.slots, r1.append (r5.append (r3.append r6)), pm.nodup_iff.mp J.nd, fun z hz => J.fr z (pm.mem_iff.mpr hz), fun z hz => J.own z (pm.mem_iff.mpr hz), J.gn, J.keep, J.kept⟩
/-- a thing is put behind the others in a held list of our own -/
theorem SI.accPush {acc : List D} {y : D} {p : Addr} {v : V} (I : SI K b σ H ε (T ++ [.lst true acc, y]) (Tv ++ [.ref p, v])) (hl : T.length = Tv.length) : ∃ vs, H p = some (.lst vs) ∧ vs.length = acc.length ∧ SI K b σ (upd H p (.lst (vs ++ [v]))) ε (T ++ [.lst true (acc ++ [y])]) (Tv ++ [.ref p]) := by
  obtain ⟨G, F, Ft, J⟩ := I
  obtain ⟨F1, F2, rfl, r1, r2⟩ := J.temps.split2 hl
  obtain ⟨v', vs1, A, B, e1, rfl, ra, v2, vs2, A2, B2, e2, rfl, rb, rfl, rfl⟩ := r2
  cases e1
  cases e2
  obtain ⟨a, us, A', ea, ha, rfl, rl⟩ := ra
  cases ea
  have nd := J.nd
  have pm : (F ++ (F1 ++ (p :: A' ++ (A2 ++ [])))).Perm (p :: (F ++ (F1 ++ (A' ++ A2)))) := by
    apply List.perm_iff_count.mpr
    intro z
    simp only [List.count_append, List.count_cons, List.cons_append, List.count_nil]
    omega
  have nd2 := pm.nodup_iff.mp nd
  have np := (List.nodup_cons.mp nd2).1
  have ev : ∀ z, z ∈ F ++ (F1 ++ (A' ++ A2)) → upd H p (.lst (us ++ [v])) z = H z := fun z hz => upd_ne fun e => np (e ▸ hz)
  have gp : G p = none := J.fr p (pm.mem_iff.mpr List.mem_cons_self)
  have pm2 : (F ++ (F1 ++ (p :: (A' ++ A2)))).Perm (p :: (F ++ (F1 ++ (A' ++ A2)))) := by
    apply List.perm_iff_count.mpr
    intro z
    simp only [List.count_append, List.count_cons]
    omega
  refine ⟨us, ha, rl.len.symm, G, F, F1 ++ (p :: (A' ++ A2)), J.s0, fun z o q => ?_, J.slots.mono Sub.refl fun z hz => ev z (List.mem_append_left _ hz), ?_, pm2.nodup_iff.mpr nd2, fun z hz => J.fr z (pm.mem_iff.mpr (pm2.mem_iff.mp hz)), fun z hz => J.own z (pm.mem_iff.mpr (pm2.mem_iff.mp hz)), J.gn, fun z o q n => ?_, J.kept⟩
  · rw [upd_ne fun e => by rw [e, gp] at q; cases q]
    exact J.sub z o q
  · refine (r1.mono Sub.refl fun z hz => ev z (List.mem_append_right _ (List.mem_append_left _ hz))).append (RpL.one.mpr ⟨p, us ++ [v], A' ++ A2, rfl, upd_same, rfl, ?_⟩)
    exact (rl.append (RpL.one.mpr rb)).mono Sub.refl fun z hz => ev z (List.mem_append_right _ (List.mem_append_right _ hz))
  · rw [upd_ne fun e => ?_]
    · exact J.keep z o q n
    · subst e
      rcases J.own z (pm.mem_iff.mpr List.mem_cons_self) with h | h
      · exact n h
      · rw [q] at h; cases h
end
section
variable {X : Cv}
structure VTo (X : Cv) (own : List Nat) (tg : Expr) (t : VTG) : Prop where
  ex : ∃ g : TG, PG X.toCx tg g ∧ ∀ (b : Bx X) σ H ε T Tv d v Q Q', SI X.K b.1 σ H ε (T ++ [d]) (Tv ++ [v]) → T.length = Tv.length → t d ε Q →
    (∀ ε' σ' H', wipe σ' own = wipe σ own → SI X.K b.1 σ' H' ε' T Tv → Q ε' → Q' σ' H') → g v σ H Q'
theorem vto_name {own : List Nat} {i : Nat} {x : Str} {pos : Pos} (ho : i ∈ own) (hN : X.N.Nodup) (hi : X.N[i]? = some x) (hx : Loc X.env.scope x) (hk : X.κ[i]? ≠ some true)
    (hf : X.fn x = true ∨ X.env.scope.names.lookup x = some .local := by first | exact .inl rfl | exact .inr rfl | assumption) : VTo X own (.Name x pos) (vName i) :=
  ⟨gName i, pg_name hN hi hx hf, fun b σ H ε T Tv d v Q Q' I l q k => k _ _ H (wipe_set ho) (I.store l q.1 (b.free hk)) q.2⟩
structure VTs (X : Cv) (ifs : List Expr) (t : VTT) : Prop where
  ex : ∃ t' : WX → TT, (∀ W, Takes X.toCx W → PTs X.toCx ifs (t' W)) ∧ ∀ (b : Bx X) σ H ε T Tv W N Q Q', SI X.K b.1 σ H ε T Tv → t N ε Q →
    (∀ c ε' H', SI X.K b.1 σ H' ε' T Tv → Q c ε' → Q' c H') → XL X.K b.1 T Tv W N → t' W σ H Q'
def vYes : VTT := fun _ ε Q => Q true ε
theorem vts_nil : VTs X [] vYes := ⟨fun _ => tYes, fun _ _ => pts_nil, fun b σ H ε T Tv W N Q Q' I q k x => k true ε H I q⟩
theorem vts_one {c : Expr} {t : VTT} (h : VT X c t) : VTs X [c] t := by
  obtain ⟨t', h1, h2⟩ := h.ex
  exact ⟨t', fun W tk => pts_one (h1 W tk), h2⟩
def noX : WV := fun _ _ _ => False
def vLcL (own : List Nat) (g : VTG) (tt : VTT) (te : VTE) : List D → List D → Ep → (List D → Ep → Prop) → Prop
  | [], acc, ε, Q => Q acc ε
  | d :: ds, acc, ε, Q => g d ε fun ε1 => tt noX ε1 fun c ε2 => if c = true then te noX ε2 fun y ε3 => acc.length < 1000000 ∧ vLcL own g tt te ds (acc ++ [y]) (forgetE own ε3) Q else vLcL own g tt te ds acc (forgetE own ε2) Q
def vLc (own : List Nat) (wi : VTA) (g : VTG) (tt : VTT) (te : VTE) : VTE := fun N ε Q => wi N ε fun ds ε1 => vLcL own g tt te ds [] (pull own ε1).2.2 fun acc ε' => Q (.lst true acc) (restore (pull own ε1).1 (pull own ε1).2.1 ε')
/-- a block's context -/
abbrev Cv.blk (X : Cv) (s : Shared) (H : Hp) (scope : Scope) (C : Addr) (cl : List (Str × Addr)) (fp : List Addr) : Cv := { X.toCx.blk s H scope (compEnvC scope cl C X.env) fp with κ := X.κ }
theorem takes_no {Y : Cx} : Takes Y (fun _ _ _ _ => False) := fun _ _ ⟨_, _, _, _, _, _, _, _, _, _, _, _, _, _, _, _, w⟩ => w.elim
abbrev BI : Type := Shared × Hp × Addr × List (Str × Addr) × List Addr
theorem lc_run {own : List Nat} {g : VTG} {tt : VTT} {te : VTE} {tgE elt : Expr} {ifs : List Expr} {scope : Scope}
    (hk : ∀ i ∈ own, X.κ[i]? ≠ some true)
    (hg : ∀ c : BI, VTo (X.blk c.1 c.2.1 scope c.2.2.1 c.2.2.2.1 c.2.2.2.2) own tgE g) (ht : ∀ c : BI, VTs (X.blk c.1 c.2.1 scope c.2.2.1 c.2.2.2.1 c.2.2.2.2) ifs tt) (he : ∀ c : BI, VE (X.blk c.1 c.2.1 scope c.2.2.1 c.2.2.2.1 c.2.2.2.2) elt te) :
    ∃ (g' : TG) (tt' : TT) (te' : TE), (∀ c : BI, PG (X.blk c.1 c.2.1 scope c.2.2.1 c.2.2.2.1 c.2.2.2.2).toCx tgE g') ∧ (∀ c : BI, PTs (X.blk c.1 c.2.1 scope c.2.2.1 c.2.2.2.1 c.2.2.2.2).toCx ifs tt') ∧ (∀ c : BI, PE (X.blk c.1 c.2.1 scope c.2.2.1 c.2.2.2.1 c.2.2.2.2).toCx elt te') ∧
      ∀ (b : Bx X) σ H ε T Tv R Rv ds J (Q : List D → Ep → Prop) (Q' : VK), SI X.K b.1 σ H ε (T ++ R) (Tv ++ Rv) → T.length = Tv.length → R.length = Rv.length → Wk X.K J ds R Rv → vLcL own g tt te ds [] (pull own ε).2.2 (fun acc ε' => Q acc (restore (pull own ε).1 (pull own ε).2.1 ε')) →
        (∀ acc v ε' H', SI X.K b.1 σ H' ε' (T ++ [.lst true acc]) (Tv ++ [v]) → Q acc ε' → Q' v H') →
        ∀ D, H D = none → ∃ W : Nat → Nat → Hp → Prop, (∃ m, W 0 m (upd H D (.lst []))) ∧ ∀ i m H, W i m H →
          (J.stop i H ∧ Q' (.ref D) H) ∨ (J.go i H ∧ ∃ Nx : Hp → Prop, (∀ H', Nx H' → ∃ m', m' < m ∧ W (i + 1) m' H') ∧ ∀ x H', J.yld i H x H' → g' x (wipe σ own) H' fun σ2 H2 => wipe σ2 own = wipe σ own ∧ tt' σ2 H2 fun b H3 =>
            if b = true then te' σ2 H3 fun y H4 => ∃ acc, H4 D = some (.lst acc) ∧ acc.length < sizeLine ∧ Nx (upd H4 D (.lst (acc ++ [y]))) else Nx H3) := by
  let gc : BI → TG := fun c => Classical.choose (hg c).ex
  have gs := fun c => Classical.choose_spec (hg c).ex
  let tc : BI → WX → TT := fun c => Classical.choose (ht c).ex
  have ts := fun c => Classical.choose_spec (ht c).ex
  let ec : BI → WX → TE := fun c => Classical.choose (he c).ex
  have es := fun c => Classical.choose_spec (he c).ex
  let Wn : WX := fun _ _ _ _ => False
  refine ⟨fun v σ H Q => ∀ c, gc c v σ H Q, fun σ H Q => ∀ c, tc c Wn σ H Q, fun σ H Q => ∀ c, ec c Wn σ H Q, fun c => ⟨fun pins s σ H v u Q I r w => (gs c).1.run pins s σ H v u Q I r (w c)⟩, fun c => ⟨fun pins s σ H Q I w => ((ts c).1 Wn takes_no).run pins s σ H Q I (w c)⟩, fun c => ⟨fun pins s σ H Q I w => ((es c).1 Wn takes_no).run pins s σ H Q I (w c)⟩, ?_⟩
  intro b σ H ε T Tv R Rv ds J Q Q' I hl hr wk q k D nD
  obtain ⟨pv, Ip, hh, lp, pg⟩ := SI.pull hl (is := own) hr I
  generalize hpr : pull own ε = pr at q Ip hh lp pg
  obtain ⟨rs, pd, ε0⟩ := pr
  simp only at q Ip hh lp pg
  have hlR : (T ++ (R ++ pd)).length = (Tv ++ (Rv ++ pv)).length := by simp [hl, hr, lp]
  -- the slots of the block's own names hold nothing
  have xl : ∀ {T : List VL.D} {Tv : List V}, XL X.K b.1 T Tv Wn noX := fun _ _ _ _ _ _ _ _ _ _ z => z.elim
  have wipeI : ∀ {H : Hp} {ε2 : Ep} {T : List VL.D} {Tv : List V} {σ2 : L2.St}, (∀ i ∈ own, ∀ d, ε2[i]? ≠ some (some d)) → wipe σ2 own = wipe σ own → SI X.K b.1 σ2 H ε2 T Tv → SI X.K b.1 (wipe σ own) H ε2 T Tv := by
    intro H ε2 T Tv σ2 hn hw I
    have key : ∀ j, j ∉ own → (wipe σ own)[j]? = σ2[j]? := fun j hj => by
      rw [← hw, wipe_get, if_neg hj]
    refine I.reslot (by rw [← hw, wipe_length]) (fun j d e => key j fun hj => hn j hj d e) fun j v e => key j fun hj => b.free (hk j hj) v e
  have unwipe : ∀ {H : Hp} {ε2 : Ep} {T : List VL.D} {Tv : List V}, (∀ i ∈ own, ∀ d, ε2[i]? ≠ some (some d)) → SI X.K b.1 (wipe σ own) H ε2 T Tv → SI X.K b.1 σ H ε2 T Tv := by
    intro H ε2 T Tv hn I
    have key : ∀ j, j ∉ own → σ[j]? = (wipe σ own)[j]? := fun j hj => by
      rw [wipe_get, if_neg hj]
    refine I.reslot (by rw [wipe_length]) (fun j d e => key j fun hj => hn j hj d e) fun j v e => key j fun hj => b.free (hk j hj) v e
  have fn : ∀ {ε : Ep}, ∀ i ∈ own, ∀ d, (forgetE own ε)[i]? ≠ some (some d) := fun {ε} i hi d e => by
    rw [forgetE_get, if_pos hi] at e
    cases h : ε[i]? <;> rw [h] at e <;> cases e
  have fn0 : ∀ i ∈ own, ∀ d, ε0[i]? ≠ some (some d) := fun i hi d e => by
    rw [pg, if_pos hi] at e
    cases h : ε[i]? <;> rw [h] at e <;> cases e
  let Iv := fun (i m : Nat) (H : Hp) => m = ds.length - i ∧ i ≤ ds.length ∧ ∃ ε2 acc, (∀ i ∈ own, ∀ d, ε2[i]? ≠ some (some d)) ∧ SI X.K b.1 (wipe σ own) H ε2 (T ++ (R ++ (pd ++ [.lst true acc]))) (Tv ++ (Rv ++ (pv ++ [.ref D]))) ∧ vLcL own g tt te (ds.drop i) acc ε2 fun acc ε' => Q acc (restore rs pd ε')
  refine ⟨Iv, ⟨ds.length, rfl, Nat.zero_le _, ε0, [], fn0, ?_, q⟩, ?_⟩
  · have I0 := wipeI fn0 rfl Ip
    have := SI.laid (ds := []) (vs := []) (T := T ++ (R ++ pd)) (Tv := Tv ++ (Rv ++ pv)) (by simpa using I0) hlR nD (.lst []) (d := .lst true []) fun G H' F e r => ⟨D, [], F, rfl, e, rfl, r⟩
    simpa only [List.append_assoc] using this
  rintro i m H2 ⟨rfl, hi, ε2, acc, hn2, I2, z2⟩
  have lpa : (pd ++ [VL.D.lst true acc]).length = (pv ++ [V.ref D]).length := by simp [lp]
  have IR : SI X.K b.1 (wipe σ own) H2 ε2 ((T ++ (pd ++ [.lst true acc])) ++ R) ((Tv ++ (pv ++ [.ref D])) ++ Rv) := by
    have := SI.swap (A := R) (B := pd ++ [.lst true acc]) (C := []) (Av := Rv) (Bv := pv ++ [.ref D]) (Cv := []) (by simpa using I2) hl hr lpa
    simpa using this
  have hl2 : (T ++ (pd ++ [VL.D.lst true acc])).length = (Tv ++ (pv ++ [V.ref D])).length := by simp [hl, lp]
  obtain ⟨go, stop⟩ := wk b.1 (wipe σ own) H2 ε2 _ _ i hl2 IR
  by_cases hlt : i < ds.length
  · right
    rw [List.drop_eq_getElem_cons hlt] at z2
    obtain ⟨g0, gy⟩ := go ds[i] (List.getElem?_eq_getElem hlt)
    refine ⟨g0, Iv (i + 1) (ds.length - (i + 1)), fun H' y => ⟨ds.length - (i + 1), by omega, y⟩, fun x H' y c => ?_⟩
    have I3 := gy x H' y
    have I4 : SI X.K b.1 (wipe σ own) H' ε2 (T ++ (R ++ ((pd ++ [.lst true acc]) ++ [ds[i]]))) (Tv ++ (Rv ++ ((pv ++ [.ref D]) ++ [x]))) :=
      SI.swap (A := pd ++ [.lst true acc]) (B := R) (C := [ds[i]]) (Av := pv ++ [.ref D]) (Bv := Rv) (Cv := [x]) (by simpa only [List.append_assoc] using I3) hl lpa hr
    have hl3 : (T ++ (R ++ (pd ++ [VL.D.lst true acc]))).length = (Tv ++ (Rv ++ (pv ++ [V.ref D]))).length := by simp [hl, hr, lp]
    refine (gs c).2 b _ H' ε2 (T ++ (R ++ (pd ++ [.lst true acc]))) (Tv ++ (Rv ++ (pv ++ [.ref D]))) ds[i] x _ _ (by simpa only [List.append_assoc] using I4) hl3 z2 fun ε3 σ3 H3 hw I5 z3 => ?_
    refine ⟨by rw [hw, wipe_wipe], fun c2 => ?_⟩
    refine (ts c2).2 b σ3 H3 ε3 _ _ Wn noX _ _ I5 z3 (fun k4 ε4 H4 I6 z4 => ?_) xl
    have hw3 : wipe σ3 own = wipe σ own := by rw [hw, wipe_wipe]
    cases k4 with
    | false => exact ⟨rfl, hlt, forgetE own ε4, acc, fn, wipeI fn hw3 I6.forget, z4⟩
    | true =>
      intro c3
      refine (es c3).2 b σ3 H4 ε4 _ _ Wn noX _ _ I6 z4 (fun yd yv ε5 H5 I7 z5 => ?_) xl
      have hl4 : (T ++ (R ++ pd)).length = (Tv ++ (Rv ++ pv)).length := hlR
      obtain ⟨vs, hv, lv, I8⟩ := SI.accPush (T := T ++ (R ++ pd)) (Tv := Tv ++ (Rv ++ pv)) (acc := acc) (y := yd) (p := D) (v := yv) (by simpa only [List.append_assoc, List.cons_append, List.nil_append] using I7) hl4
      refine ⟨vs, hv, by rw [lv]; exact k1m z5.1, rfl, hlt, forgetE own ε5, acc ++ [yd], fn, wipeI fn hw3 (SI.forget ?_), z5.2⟩
      simpa only [List.append_assoc, List.cons_append, List.nil_append] using I8
  · left
    have e : i = ds.length := by omega
    subst e
    rw [List.drop_length] at z2
    refine ⟨stop (Nat.le_refl _), ?_⟩
    have I9 := unwipe hn2 I2
    have I10 := SI.midDrops I9 hl hr
    exact k acc (.ref D) _ H2 (SI.restore hl hh lp I10) z2
theorem ve_lc {elt tg iter : Expr} {ifs : List Expr} {scope : Scope} {own : List (Str × Nat)} {pos : Pos} {wi : VTA} {g : VTG} {tt : VTT} {te : VTE} (hc : X.calm = true) (hN : X.N.Nodup) (ok : BlkOk X.N X.env.scope scope own) (hk : ∀ i ∈ own.map (·.2), X.κ[i]? ≠ some true) (hi : VI X tg iter wi)
    (hg : ∀ c : BI, VTo (X.blk c.1 c.2.1 scope c.2.2.1 c.2.2.2.1 c.2.2.2.2) (own.map (·.2)) tg g) (ht : ∀ c : BI, VTs (X.blk c.1 c.2.1 scope c.2.2.1 c.2.2.2.1 c.2.2.2.2) ifs tt) (he : ∀ c : BI, VE (X.blk c.1 c.2.1 scope c.2.2.1 c.2.2.2.1 c.2.2.2.2) elt te)
    (hs : ∀ x, foldedSetIterable iter X.env x = pure x := by intro _; rfl) : VE X (.ListComp elt [⟨tg, iter, ifs, 0⟩] scope pos) (vLc (own.map (·.2)) wi g tt te) := by
  obtain ⟨wi', w1, w2⟩ := hi.ex
  obtain ⟨g', tt', te', h1, h2, h3, run⟩ := lc_run hk hg ht he
  refine ⟨fun W => tLc (wi' W) g' tt' te' (own.map (·.2)), fun W tk => pe_lc hc hN (w1 W tk) ok (fun s H C cl fp => h1 ⟨s, H, C, cl, fp⟩) (fun s H C cl fp => h2 ⟨s, H, C, cl, fp⟩) (fun s H C cl fp => h3 ⟨s, H, C, cl, fp⟩) hs, fun b σ H ε T Tv W N Q Q' I q k x => ?_⟩
  exact w2 b σ H ε T Tv W N _ _ I q (fun ds R Rv J ε1 H1 I1 hr wk z => run b σ H1 ε1 T Tv R Rv ds J _ Q' I1 I.lenT hr wk z fun acc v ε' H' I' z' => k _ v ε' H' I' z') x
end
end VL
namespace VL
open PySem PySem.Spec PyProof.Rows L2 VL
def cutL {α : Type} (xs : List α) (lo hi : Option Int) : List α := (xs.drop (HT.sIx xs.length 0 lo)).take (HT.sIx xs.length xs.length hi - HT.sIx xs.length 0 lo)
section
variable {K : PySem.W.Frag} {G H : Hp}
theorem RpL.drop : ∀ {ds : List D} {vs : List V} (n : Nat), RpL K G H ds vs [] → RpL K G H (ds.drop n) (vs.drop n) []
  | _, _, 0, r => by simpa using r
  | [], vs, n + 1, r => by
    obtain ⟨rfl, _⟩ := r
    exact ⟨rfl, rfl⟩
  | d :: ds, vs, n + 1, r => by
    obtain ⟨v, vs', F1, F2, rfl, f, rd, rs⟩ := r
    obtain ⟨rfl, rfl⟩ := List.append_eq_nil_iff.mp f.symm
    simpa using RpL.drop n rs
theorem RpL.take : ∀ {ds : List D} {vs : List V} (n : Nat), RpL K G H ds vs [] → RpL K G H (ds.take n) (vs.take n) []
  | _, _, 0, r => by simp only [List.take_zero]; exact ⟨rfl, rfl⟩
  | [], vs, n + 1, r => by
    obtain ⟨rfl, _⟩ := r
    exact ⟨rfl, rfl⟩
  | d :: ds, vs, n + 1, r => by
    obtain ⟨v, vs', F1, F2, rfl, f, rd, rs⟩ := r
    obtain ⟨rfl, rfl⟩ := List.append_eq_nil_iff.mp f.symm
    exact ⟨v, vs'.take n, [], [], rfl, rfl, rd, RpL.take n rs⟩
/-- a slice of a text, a list, a tuple, whose items stand still -/
def sliceD : D → Option Int → Option Int → Option D
  | .str s, lo, hi => if s.length < 1000000 then some (.str (cutL s lo hi)) else none
  | .lst _ ds, lo, hi => if isFzL ds = true then some (.lst true (cutL ds lo hi)) else none
  | .tup ds, lo, hi => if isFzL ds = true then some (.tup (cutL ds lo hi)) else none
  | _, _, _ => none
end
/-- a slice's part -/
abbrev VTO := WV → Ep → (Option Int → Ep → Prop) → Prop
section
variable {X : Cv}
def vNoPart : VTO := fun _ ε Q => Q none ε
def vPart (t : VTE) : VTO := fun N ε Q => t N ε fun d ε1 => ∃ i, d = .int i ∧ Q (some i) ε1
def vSl (r : Option Nat) (t : VTE) (tl th : VTO) : VTE := fun N ε Q => t N ε fun x ε1 => tl N ε1 fun lo ε2 => th N ε2 fun hi ε3 => ∃ d, sliceD x lo hi = some d ∧ Q d (restore [r] [x] ε3)
/-- xs[::-1] -/
def sRev : List D → (D → Prop) → Prop := fun ds Q => ∃ m xs, ds = [.lst m xs] ∧ isFzL xs = true ∧ Q (.lst true xs.reverse)
/-- the value at a key, or x -/
def dget2D (c k x : D) : Option D := match c with
  | .dK _ ks ds => (keyD k).bind fun k => match kIx ks k with | some j => ds[j]? | none => some x
  | .dT _ ks ds => (keyT k).bind fun k => match kIx ks k with | some j => ds[j]? | none => some x
  | _ => none
def isDct : D → Bool
  | .dK _ _ _ => true
  | .dT _ _ _ => true
  | _ => false
def sDGet2 : List D → (D → Prop) → Prop := fun ds Q => ∃ c k x d, ds = [c, k, x] ∧ isFz x = true ∧ dget2D c k x = some d ∧ isFz d = true ∧ Q d
theorem isD_run {K : PySem.W.Frag} {G H : Hp} (hs : Sub G H) {c : D} {v : V} {F : List Addr} (r : Rp K G H c v F) (h : isDct c = true) : ∃ a, v = .ref a ∧ IsD H a := by
  cases c with
  | dK m ks xs =>
    cases m with
    | true => obtain ⟨a, vs, F', rfl, s, _⟩ := r; exact ⟨a, rfl, .inl ⟨_, .inl s⟩⟩
    | false => obtain ⟨a, vs, rfl, s, _⟩ := r; exact ⟨a, rfl, .inl ⟨_, hs.rd s⟩⟩
  | dT m ks xs =>
    cases m with
    | true => obtain ⟨a, vs, F', rfl, s, _⟩ := r; exact ⟨a, rfl, .inr ⟨_, .inl s⟩⟩
    | false => obtain ⟨a, vs, rfl, s, _⟩ := r; exact ⟨a, rfl, .inr ⟨_, .inl (hs _ _ s)⟩⟩
  | _ => cases h
theorem dget2_run {K : PySem.W.Frag} {G H : Hp} (hs : Sub G H) {c k x d : D} {v w u : V} {F1 F2 F3 : List Addr} (rc : Rp K G H c v F1) (rk : Rp K G H k w F2) (rx : Rp K G H x u F3) (hx : isFz x = true) (h : dget2D c k x = some d) (z : isFz d = true) :
    ∃ a o, v = .ref a ∧ DGet H a w o ∧ Rp K G H d (o.getD u) [] := by
  have := rx.fz hx
  subst this
  cases c with
  | dK m ks xs =>
    have : ∃ a us F', v = .ref a ∧ Rd H a (.dK (kzip ks us)) ∧ ks.length = xs.length ∧ RpL K G H xs us F' := by
      cases m with
      | false => obtain ⟨a, us, e, s, _, l, _, r⟩ := rc; exact ⟨a, us, _, e, hs.rd s, l, r⟩
      | true => obtain ⟨a, us, F', e, s, _, l, _, r⟩ := rc; exact ⟨a, us, _, e, .inl s, l, r⟩
    obtain ⟨a, us, F', rfl, e, l, rl⟩ := this
    have h : ((keyD k).bind fun k => match kIx ks k with | some j => xs[j]? | none => some x) = some d := h
    cases hk : keyD k with
    | none => rw [hk] at h; cases h
    | some k0 =>
      rw [hk] at h
      obtain ⟨rfl, _⟩ := rk.keyD hk
      have dg : DGet H a (kV (kc k0)) (valV (kzip ks us) (kc k0)) := .inl ⟨_, _, e, rfl, rfl⟩
      rw [kzip_val (l.trans rl.len)] at dg
      refine ⟨a, _, rfl, dg, ?_⟩
      have h : (match kIx ks k0 with | some j => xs[j]? | none => some x) = some d := h
      cases hj : kIx ks k0 with
      | none =>
        rw [hj] at h
        cases h
        exact rx
      | some j =>
        rw [hj] at h
        obtain ⟨y, hy, ry⟩ := rl.at h z
        show Rp K G H d ((us[j]?).getD u) []
        rw [hy]
        exact ry
  | dT m ks xs =>
    have : ∃ a us F', v = .ref a ∧ H a = some (.dT (tzip ks us)) ∧ ks.length = xs.length ∧ RpL K G H xs us F' := by
      cases m with
      | false => obtain ⟨a, us, e, s, _, l, _, r⟩ := rc; exact ⟨a, us, _, e, hs _ _ s, l, r⟩
      | true => obtain ⟨a, us, F', e, s, _, l, _, r⟩ := rc; exact ⟨a, us, _, e, s, l, r⟩
    obtain ⟨a, us, F', rfl, e, l, rl⟩ := this
    have h : ((keyT k).bind fun k => match kIx ks k with | some j => xs[j]? | none => some x) = some d := h
    cases hk : keyT k with
    | none => rw [hk] at h; cases h
    | some k0 =>
      rw [hk] at h
      obtain ⟨kb, rfl, hkb, _⟩ := rk.keyT hs hk
      have dg := DGet.t (k := tkc k0) e hkb
      rw [tzip_val (l.trans rl.len)] at dg
      refine ⟨a, _, rfl, dg, ?_⟩
      have h : (match kIx ks k0 with | some j => xs[j]? | none => some x) = some d := h
      cases hj : kIx ks k0 with
      | none =>
        rw [hj] at h
        cases h
        exact rx
      | some j =>
        rw [hj] at h
        obtain ⟨y, hy, ry⟩ := rl.at h z
        show Rp K G H d ((us[j]?).getD u) []
        rw [hy]
        exact ry
  | _ => cases h
def vDGet2 (r : Option Nat) (tc tk tx : VTE) : VTE := fun N ε Q => tc N ε fun c ε1 => isDct c = true ∧ tk N ε1 fun k ε2 => tx N ε2 fun x ε3 => sDGet2 [c, k, x] fun d => Q d (restore [r] [c] ε3)
theorem ve_dget2 {o e f : Expr} {r : Option Nat} {tc tk tx : VTE} {apos cpos : Pos} {k : Nat} (hr : Room k X.A) (hc : VG X o r tc) (hk : VG X e none tk) (hx : VG X f none tx) (m : M2 X.toCx o "get" apos e f cpos) : VE X (.Call (.Attribute o "get" apos) [e, f] [] cpos) (vDGet2 r tc tk tx) := by
  obtain ⟨c', a1, a2⟩ := hc.ex
  obtain ⟨k', b1, b2⟩ := hk.ex
  obtain ⟨x', d1, d2⟩ := hx.ex
  refine ⟨fun W => tDGet2 (c' W) (k' W) (x' W), fun W tk => pe_dget2 (by have := hr.units; omega) (a1 W tk) (b1 W tk) (d1 W tk) m, fun b σ H ε T Tv W N Q Q' I q kk x => ?_⟩
  refine a2 b σ H ε T Tv W N _ _ I q (fun c v ε1 H1 J hd z => ?_) x
  obtain ⟨G0, F0, su0, rc0⟩ := J.last I.lenT
  obtain ⟨a, rfl, isd⟩ := isD_run su0 rc0 z.1
  refine ⟨a, rfl, isd, ?_⟩
  refine b2 b σ H1 ε1 _ _ W N _ _ J z.2 (fun y w ε2 H2 J2 _ z2 => ?_) (x.more I.lenT rfl)
  refine d2 b σ H2 ε2 _ _ W N _ _ J2 z2 (fun y2 w2 ε3 H3 J3 _ z3 => ?_) ((x.more I.lenT rfl).more (lenApp I.lenT rfl) rfl)
  obtain ⟨c', k', x', d, e0, hz, hg, hf, z3⟩ := z3
  cases e0
  have J4 : SI X.K b.1 σ H3 ε3 (T ++ [c, y, y2]) (Tv ++ [.ref a, w, w2]) := by simpa only [List.append_assoc, List.cons_append, List.nil_append] using J3
  obtain ⟨G, F, Ft, J5⟩ := id J4
  obtain ⟨F1, F2, rfl, r1, r2⟩ := J5.temps.split2 I.lenT
  obtain ⟨_, _, A1, B1, e1, rfl, rc, _, _, A2, B2, e2, rfl, rk, _, _, A3, B3, e3, rfl, rx, _⟩ := r2
  cases e1; cases e2; cases e3
  obtain ⟨a', o, ea, dg, ro⟩ := dget2_run J5.sub rc rk rx hz hg hf
  cases ea
  refine ⟨o, dg, ?_⟩
  have J6 := J5.push ro
  have J7 : SI X.K b.1 σ H3 ε3 (T ++ ([c] ++ ([y, y2] ++ [d]))) (Tv ++ ([.ref a] ++ ([w, w2] ++ [o.getD w2]))) := ⟨G, F, _, by simpa only [List.append_assoc, List.cons_append, List.nil_append] using J6⟩
  have J8 := SI.restore I.lenT hd rfl J7
  have J9 := SI.midDrops (T := T) (Tv := Tv) (R := [y, y2]) (Rv := [w, w2]) (S := [d]) (Sv := [o.getD w2]) J8 I.lenT rfl
  exact kk d _ _ H3 J9 z3
def likeD (ks : List Kc) (xs : List D) (ls : List Kc) (ys : List D) : Prop := xs.length = ys.length ∧ ∀ (j : Nat) k x, ks[j]? = some k → xs[j]? = some x → flatD x = true ∧ ∃ i, kIx ls k = some i ∧ ys[i]? = some x
def sEqD (c : Bool) : List D → (D → Prop) → Prop := fun ds Q => ∃ m ks xs n ls ys, ds = [.dK m ks xs, .dK n ls ys] ∧ likeD ks xs ls ys ∧ Q (.bl c)
end
end VL
namespace VL
open PySem PySem.Spec PyProof.Rows L2 VL
abbrev oSub := sI2 fun i j => .int (i - j)
abbrev oAnd := sI2 fun i j => .int (Builtin.bitAnd i j)
abbrev oXor := sI2 fun i j => .int (Builtin.bitXor i j)
abbrev oLt := sI2 fun i j => .bl (decide (i < j))
abbrev oGt := sI2 fun i j => .bl (decide (j < i))
abbrev oGe := sI2 fun i j => .bl (decide (j ≤ i))
abbrev oMod := sI2c (fun _ j => j ≠ 0) fun i j => .int (pmod i j)
abbrev oDiv := sI2c CDv fun i j => .int (pdiv i j)
abbrev oPow := sI2c CPow fun i j => .int (i ^ j.toNat)
def oNeg : List D → (D → Prop) → Prop := fun ds Q => ∃ i, ds = [.int i] ∧ Q (.int (-i))
theorem opn_neg {K : PySem.W.Frag} : OpN K (r1N (rU fun i => .int (-i))) oNeg := OpN.pure fun G H ds vs F Q Q' hs r q k => by
  obtain ⟨i, rfl, q⟩ := q
  obtain ⟨v, rfl, rfl, _⟩ := r.one'
  exact ⟨_, rfl, i, rfl, k (.int (-i)) _ (fun _ _ _ => ⟨rfl, rfl⟩) q⟩
section
variable {X : Cv}
theorem nv (i : Nat) {x : Str} {pos : Pos} (hN : X.N[i]? = some x := by rfl) (hv : Vis X.env.scope x := by first | exact Or.inl rfl | exact Or.inr (Or.inl rfl) | exact Or.inr (Or.inr rfl)) (hd : (x == ("__debug__" : Str)) = false := by decide) (hcd : (x == ("__classdict__" : Str)) = false := by decide) : VE X (.Name x pos) (vVar i) := ve_var hN hv hd hcd
theorem nm (i : Nat) {x : Str} {pos : Pos} (hN : X.N[i]? = some x := by rfl) (hv : Vis X.env.scope x := by first | exact Or.inl rfl | exact Or.inr (Or.inl rfl) | exact Or.inr (Or.inr rfl)) (hd : (x == ("__debug__" : Str)) = false := by decide) (hcd : (x == ("__classdict__" : Str)) = false := by decide) : VE X (.Name x pos) (vMov i) := ve_mov hN hv hd hcd
theorem nf (i : Nat) {x : Str} {pos : Pos} (hN : X.N[i]? = some x := by rfl) (hv : Vis X.env.scope x := by first | exact Or.inl rfl | exact Or.inr (Or.inl rfl) | exact Or.inr (Or.inr rfl)) (hd : (x == ("__debug__" : Str)) = false := by decide) (hcd : (x == ("__classdict__" : Str)) = false := by decide) : VE X (.Name x pos) (vFrz i) := ve_frz hN hv hd hcd
theorem nq (i : Nat) {x : Str} {pos : Pos} (hN : X.N[i]? = some x := by rfl) (hv : Vis X.env.scope x := by first | exact Or.inl rfl | exact Or.inr (Or.inl rfl) | exact Or.inr (Or.inr rfl)) (hd : (x == ("__debug__" : Str)) = false := by decide) (hcd : (x == ("__classdict__" : Str)) = false := by decide) : VQ X (.Name x pos) (vVar i) := vq_var hN hv hd hcd
theorem np (i : Nat) {x : Str} {pos : Pos} (hN : X.N[i]? = some x := by rfl) (hv : Vis X.env.scope x := by first | exact Or.inl rfl | exact Or.inr (Or.inl rfl) | exact Or.inr (Or.inr rfl)) (hd : (x == ("__debug__" : Str)) = false := by decide) (hcd : (x == ("__classdict__" : Str)) = false := by decide) : VP X (.Name x pos) i (vpName i) := vp_name hN hv hd hcd
theorem sa (i : Nat) {x : Str} {e : Expr} {t : VTE} {pos pos' : Pos} (hN : X.N.Nodup) (h : VE X e t) (hi : X.N[i]? = some x := by rfl) (hx : Loc X.env.scope x := by first | exact Or.inl rfl | exact Or.inr rfl) (hk : X.κ[i]? ≠ some true := by exact ne_of_beq_false rfl) (hs : swapsWith e (some (.Name x pos')) pos.line X.env = pure false := by rfl)
    (hf : X.fn x = true ∨ X.env.scope.names.lookup x = some .local := by first | exact .inl rfl | exact .inr rfl) : VS X (.Assign [.Name x pos'] e pos) (vAsg i t) := vs_asg hN hi hx hk h hs hf
theorem tn (i : Nat) {x : Str} {pos : Pos} (hN : X.N.Nodup) (hi : X.N[i]? = some x := by rfl) (hx : Loc X.env.scope x := by first | exact Or.inl rfl | exact Or.inr rfl) (hk : X.κ[i]? ≠ some true := by exact ne_of_beq_false rfl)
    (hf : X.fn x = true ∨ X.env.scope.names.lookup x = some .local := by first | exact .inl rfl | exact .inr rfl) : VTa X (.Name x pos) (vName i) := vt_name hN hi hx hk hf
theorem m_app (i : Nat) {y : Str} {opos : Pos} {e : Expr} {es : List Expr} {rs : List (Option Nat)} {te : VTA} {apos cpos : Pos} (he : VA X (e :: es) rs te) (hrs : rs.all (· == none) = true := by rfl) (hN : X.N[i]? = some y := by rfl) (hv : Vis X.env.scope y := by first | exact Or.inl rfl | exact Or.inr (Or.inl rfl) | exact Or.inr (Or.inr rfl))
    (hd : (y == ("__debug__" : Str)) = false := by decide) (hcd : (y == ("__classdict__" : Str)) = false := by decide)
    (hbase : attributeBase (.Name y opos) "append" X.env (eval (.Name y opos) X.env) = eval (.Name y opos) X.env := by rfl)
    (hfew : ((backTo cpos (starEach (e :: es) X.env)).all (fun x => !x.1) && (backToKw cpos (keywordEach [] X.env)).all (fun x => x.1.isSome) && decide ((e :: es).length + ([] : List Keyword).length + (if ([] : List Keyword).isEmpty then 0 else 1) < 30)) = true := by rfl)
    (hline : (apos.endLine == cpos.line) = true := by rfl) (hs : starEach (e :: es) X.env = (false, eval e X.env) :: starEach es X.env := by rfl) (hplain : (backTo cpos (starEach es X.env)).any (·.1) = false := by rfl) :
    VE X (.Call (.Attribute (.Name y opos) "append" apos) (e :: es) [] cpos) (vMutN muAppend i te) := ve_mutN hN hv he hrs mu_append PySem.F.slot_list_append PySem.F.type_list_append mt_append hd hcd hbase hfew hline hs hplain
theorem mp_app {o e : Expr} {es : List Expr} {i : Nat} {t : VTP} {te : VTA} {apos cpos : Pos} (h : VP X o i t) (he : VAQ X (e :: es) te)
    (hbase : attributeBase o "append" X.env (eval o X.env) = eval o X.env := by rfl)
    (hfew : ((backTo cpos (starEach (e :: es) X.env)).all (fun x => !x.1) && (backToKw cpos (keywordEach [] X.env)).all (fun x => x.1.isSome) && decide ((e :: es).length + ([] : List Keyword).length + (if ([] : List Keyword).isEmpty then 0 else 1) < 30)) = true := by rfl)
    (hline : (apos.endLine == cpos.line) = true := by rfl) (hs : starEach (e :: es) X.env = (false, eval e X.env) :: starEach es X.env := by rfl) (hplain : (backTo cpos (starEach es X.env)).any (·.1) = false := by rfl) :
    VE X (.Call (.Attribute o "append" apos) (e :: es) [] cpos) (vMut muAppend i t te) := ve_mut h he mu_append PySem.F.slot_list_append PySem.F.type_list_append mt_append hbase hfew hline hs hplain
/-- a name as an argument: moved out behind the arguments that follow -/
def vaLate (i : Nat) (u : VTA) : VTA := fun N ε Q => (∃ d, ε[i]? = some (some d)) ∧ u N ε fun ds ε1 => ∃ d, ε1[i]? = some (some d) ∧ Q (d :: ds) (ε1.set i none)
theorem va_late {i : Nat} {x : Str} {pos : Pos} {es : List Expr} {rs : List (Option Nat)} {u : VTA} (k : VA X es rs u) (hN : X.N[i]? = some x) (hv : Vis X.env.scope x) (hd : (x == ("__debug__" : Str)) = false := by decide) (hcd : (x == ("__classdict__" : Str)) = false := by decide)
    (hs : starEach (.Name x pos :: es) X.env = (false, eval (.Name x pos) X.env) :: starEach es X.env := by rfl) : VA X (.Name x pos :: es) (some i :: rs) (vaLate i u) := by
  obtain ⟨u', k1, k2⟩ := k.ex
  refine ⟨fun W => tCons (tVar i) (u' W), fun W tk => pa_cons (pe_var hN hv hd hcd) (k1 W tk) hs, fun b σ H ε T Tv W N Q Q' I q z x => ?_⟩
  obtain ⟨⟨d0, e0⟩, q⟩ := q
  obtain ⟨v, hs, _⟩ := I.mov e0
  refine ⟨v, hs, k2 b σ H ε T Tv W N _ _ I q (fun ds vs ε2 H2 J l hh q2 => ?_) x⟩
  obtain ⟨d, e, q2⟩ := q2
  obtain ⟨v', hs', J2⟩ := J.mov e
  rw [hs] at hs'
  cases hs'
  have J3 := SI.swap (A := ds) (B := [d]) (C := []) (Av := vs) (Bv := [v]) (Cv := []) (by simpa only [List.append_assoc, List.append_nil] using J2) I.lenT l rfl
  exact z (d :: ds) (v :: vs) _ H2 (by simpa using J3) (by simp [l]) ⟨hs, hh⟩ q2
theorem al (i : Nat) {x : Str} {pos : Pos} {es : List Expr} {rs : List (Option Nat)} {u : VTA} (k : VA X es rs u) (hN : X.N[i]? = some x := by rfl) (hv : Vis X.env.scope x := by first | exact Or.inl rfl | exact Or.inr (Or.inl rfl) | exact Or.inr (Or.inr rfl)) (hd : (x == ("__debug__" : Str)) = false := by decide) (hcd : (x == ("__classdict__" : Str)) = false := by decide)
    (hs : starEach (.Name x pos :: es) X.env = (false, eval (.Name x pos) X.env) :: starEach es X.env := by rfl) : VA X (.Name x pos :: es) (some i :: rs) (vaLate i u) := va_late k hN hv hd hcd hs
end
def FnAt (K : PySem.W.Frag) (mg : Str → Option Value) (x : Str) (st : Stmt) : Prop := ∃ f fd, mg x = some (.ref f) ∧ FunD K x x (defArgs st) (defBody st) (defScope st) [] [] f fd
theorem fnAt_of {K : PySem.W.Frag} {mg : Str → Option Value} {x : Str} {st : Stmt} {h : Heap} {a : Str × Option Str} (X : K.In h) (G : h.Ns mainGlobals mg) (c : (He.Fa.glo x).ok K = true) (ha : a = (x, none)) (d : ∃ fd, FunD K x x (defArgs st) (defBody st) (defScope st) [] [] (He.fAd K a) fd) : FnAt K mg x st := by
  subst ha
  obtain ⟨fd, d⟩ := d
  exact ⟨_, fd, He.glo_ok X G c, d⟩
/-- a body's reading keeps the promise -/
def Rd (n : Nat) (κ : List Bool) (m : Nat) (vsp : VSp) (t : VTS) : Prop := ∀ ds Q Ex, ds.length = n → vsp ds Q Ex → t { nx := fun ε => n ≤ ε.length ∧ Q .non (finalL κ ds ε), rt := fun r ε => n ≤ ε.length ∧ Q r (finalL κ ds ε), rx := fun cls row ε => n ≤ ε.length ∧ Ex cls row (finalL κ ds ε) } (startE m ds)
theorem Fv.mk2 {P : Program} {w : World} {K : PySem.W.Frag} {mg : Str → Option Value} {base : Heap} {x : Str} {st : Stmt} {N ps : List Str} {κ : List Bool} {k n : Nat} {vsp : VSp} {t : VTS} (F : FnAt K mg x st) (S : FnScope N ps (defScope st))
    (hb : ∀ {f fd}, FunD K x x (defArgs st) (defBody st) (defScope st) [] [] f fd → Binds K fd ps []) (hn : ps.length = n) (hN : n ≤ N.length)
    (hbody : ∀ (f : Addr) (cdv : Value) (A : Around) (outer : List Env) (s : Shared) (H : Hp) (E : XK), Room k (A.deeper (envOfC x (defScope st) s.heap.objs.size f cdv)) → VSs (bodyX P w K mg base N κ x (defScope st) f cdv A outer s H E) (defBody st) t)
    (hm : Mono vsp) (hsp : Rd n κ N.length vsp t) : Fv P w K mg base x (k + 1) n vsp := by
  obtain ⟨f, fd, h1, F⟩ := F
  exact ⟨f, fd, ps, h1, F.kp, hb F, fn_ok F S hn hN (hbody f) hm hsp⟩
theorem cx_no {P : Program} : ∀ (w : World) (H : Hp) (s : Shared) (e : Value) (s' : Shared), VL.CX P w [] H s (fun _ _ _ => False) e s' → False := fun _ _ _ _ _ h => by
  obtain ⟨_, _, _, _, _, _, _, _, _, _, _, _, z⟩ := h
  exact z
/-- the script as a tree -/
def scriptD (ns : List Int) : D := .lst false (ns.map D.int)
theorem ints_rp {K : PySem.W.Frag} {G H : Hp} : ∀ ns : List Int, RpL K G H (ns.map D.int) (ns.map V.int) []
  | [] => ⟨rfl, rfl⟩
  | n :: ns => ⟨.int n, ns.map V.int, [], [], rfl, rfl, ⟨rfl, rfl⟩, ints_rp ns⟩
theorem lawAt {l : PySem.W.OpenLaw} {w : World} {K : PySem.W.Frag} {k j : Nat} {p : Str} {mg : Str → Option Value} {fa : Addr} {h : Heap} {st : Stmt} {vsp : VSp}
    (hmg : mg ("law" : Str) = some (.ref fa)) (F : FnAt K mg "law" st)
    (hb : ∀ {f fd}, FunD K "law" "law" (defArgs st) (defBody st) (defScope st) [] [] f fd → ∀ (s : Shared) (u : Value), BindsTo s fd ⟨[u], []⟩ [(p, u)])
    (hp : ∀ {base : Heap} {f : Addr} {fd : FuncData}, FunD K "law" "law" (defArgs st) (defBody st) (defScope st) [] [] f fd → FnOk l.prog w K mg base (VL.CX l.prog w) k f fd [p] (Lift K 1 vsp))
    (hm : Mono vsp) (ht : ∀ ns : List Int, ns.length ≤ 63 → (∀ z ∈ ns, Builtin.Int.intBits z ≤ 1048576) → vsp [scriptD ns] (fun r _ => r = .bl true) (fun _ _ _ => False)) (hj : k + 300 ≤ 3 * j := by decide) :
    LamX.LawAtS l w K (VL.CX l.prog w) j 63 p mg fa h := by
  obtain ⟨f, fd, h1, F⟩ := F
  rw [hmg] at h1
  cases h1
  refine ⟨fd, [], Lift K 1 vsp, (fun _ z => nomatch z), (fun _ z => nomatch z), (fun _ z => nomatch z), hb F, fun H a ns hl hbits _ hS => ?_, fun base _ _ _ => (hp F).lib hj⟩
  refine ⟨H, [], [scriptD ns], ⟨Sub.refl, Sub.refl, ⟨rfl, rfl⟩, RpL.one.mpr ⟨a, ns.map V.int, rfl, hS, rfl, ints_rp ns⟩, List.nodup_nil, (fun _ z => nomatch z), (fun _ z => nomatch z), (fun a o e => .inl e), (fun a o e _ => e), fun j v e => by simp [callB] at e⟩, rfl, ?_⟩
  refine hm _ _ _ _ _ (fun r ds z v H' I => ?_) (fun _ _ _ z => z.elim) (ht ns hl hbits)
  subst z
  obtain ⟨G, F, su, rv, _⟩ := SI.last I (by
    have := I.lenT
    simpa using this)
  exact rv
end VL
namespace VL
open PySem PySem.Spec PyProof.Rows L2 VL
section
variable {Q : D → Prop} {x y c k : D} {i j : Int} {s t : Cs} {xs ys : List D} {m n : Bool}
theorem e_sI2 {f : Int → Int → D} : sI2 f [.int i, .int j] Q ↔ Q (f i j) := ⟨fun ⟨_, _, e, q⟩ => by cases e; exact q, fun q => ⟨_, _, rfl, q⟩⟩
theorem e_sI2c {cc : Int → Int → Prop} {f : Int → Int → D} : sI2c cc f [.int i, .int j] Q ↔ cc i j ∧ Q (f i j) := ⟨fun ⟨_, _, e, q⟩ => by cases e; exact q, fun q => ⟨_, _, rfl, q⟩⟩
theorem e_neg : oNeg [.int i] Q ↔ Q (.int (-i)) := ⟨fun ⟨_, e, q⟩ => by cases e; exact q, fun q => ⟨_, rfl, q⟩⟩
theorem e_addI : sAdd [.int i, .int j] Q ↔ Q (.int (i + j)) := ⟨fun ⟨_, _, _, e, h, q⟩ => by cases e; cases h; exact q, fun q => ⟨_, _, _, rfl, rfl, q⟩⟩
theorem e_addS : sAdd [.str s, .str t] Q ↔ s.length + t.length < 1000000 ∧ Q (.str (s ++ t)) := by
  constructor
  · rintro ⟨_, _, d, e, h, q⟩
    cases e
    have h : (if s.length + t.length < 1000000 then some (D.str (s ++ t)) else none) = some d := h
    by_cases z : s.length + t.length < 1000000
    · rw [if_pos z] at h; cases h; exact ⟨z, q⟩
    · rw [if_neg z] at h; cases h
  · rintro ⟨z, q⟩
    exact ⟨_, _, _, rfl, if_pos z, q⟩
theorem e_addT : sAdd [.tup xs, .tup ys] Q ↔ (isFzL xs = true ∧ isFzL ys = true ∧ xs.length + ys.length < 1000000) ∧ Q (.tup (xs ++ ys)) := by
  constructor
  · rintro ⟨_, _, d, e, h, q⟩
    cases e
    have h : (if (isFzL xs && isFzL ys) = true then (if xs.length + ys.length < 1000000 then some (D.tup (xs ++ ys)) else none) else none) = some d := h
    by_cases z : (isFzL xs && isFzL ys) = true
    · rw [if_pos z] at h
      by_cases z2 : xs.length + ys.length < 1000000
      · rw [if_pos z2] at h; cases h
        exact ⟨⟨(Bool.and_eq_true_iff.mp z).1, (Bool.and_eq_true_iff.mp z).2, z2⟩, q⟩
      · rw [if_neg z2] at h; cases h
    · rw [if_neg z] at h; cases h
  · rintro ⟨⟨a, b, z⟩, q⟩
    exact ⟨_, _, _, rfl, (if_pos (Bool.and_eq_true_iff.mpr ⟨a, b⟩)).trans (if_pos z), q⟩
theorem e_addL : sAdd [.lst m xs, .lst n ys] Q ↔ (isFzL xs = true ∧ isFzL ys = true ∧ xs.length + ys.length < 1000000) ∧ Q (.lst true (xs ++ ys)) := by
  constructor
  · rintro ⟨_, _, d, e, h, q⟩
    cases e
    have h : (if (isFzL xs && isFzL ys) = true then (if xs.length + ys.length < 1000000 then some (D.lst true (xs ++ ys)) else none) else none) = some d := h
    by_cases z : (isFzL xs && isFzL ys) = true
    · rw [if_pos z] at h
      by_cases z2 : xs.length + ys.length < 1000000
      · rw [if_pos z2] at h; cases h
        exact ⟨⟨(Bool.and_eq_true_iff.mp z).1, (Bool.and_eq_true_iff.mp z).2, z2⟩, q⟩
      · rw [if_neg z2] at h; cases h
    · rw [if_neg z] at h; cases h
  · rintro ⟨⟨a, b, z⟩, q⟩
    exact ⟨_, _, _, rfl, (if_pos (Bool.and_eq_true_iff.mpr ⟨a, b⟩)).trans (if_pos z), q⟩
theorem e_mulI : sMul [.int i, .int j] Q ↔ CMl i j ∧ Q (.int (i * j)) := by
  constructor
  · rintro (⟨_, _, e, h, q⟩ | ⟨_, _, e, _⟩)
    · cases e; exact ⟨h, q⟩
    · cases e
  · rintro ⟨h, q⟩
    exact .inl ⟨_, _, rfl, h, q⟩
theorem e_divmod : sDivmod [.int i, .int j] Q ↔ CDv i j ∧ Q (.tup [.int (pdiv i j), .int (pmod i j)]) := ⟨fun ⟨_, _, e, q⟩ => by cases e; exact q, fun q => ⟨_, _, rfl, q⟩⟩
/-- what == asks -/
def eqOk (x y : D) : Prop := scalD x y = true ∨ (okD 64 x = true ∧ okD 64 y = true)
theorem e_eq : sEq [x, y] Q ↔ eqOk x y ∧ Q (.bl (deq x y)) := ⟨fun ⟨_, _, e, h, q⟩ => by cases e; exact ⟨h, q⟩, fun ⟨h, q⟩ => ⟨_, _, rfl, h, q⟩⟩
theorem e_ne : sNe [x, y] Q ↔ eqOk x y ∧ Q (.bl (!deq x y)) := ⟨fun ⟨_, _, e, h, q⟩ => by cases e; exact ⟨h, q⟩, fun ⟨h, q⟩ => ⟨_, _, rfl, h, q⟩⟩
theorem eqOk_i : eqOk (.int i) (.int j) ↔ True := ⟨fun _ => trivial, fun _ => .inl rfl⟩
theorem eqOk_s : eqOk (.str s) (.str t) ↔ True := ⟨fun _ => trivial, fun _ => .inl rfl⟩
theorem eqOk_b {a b : Bool} : eqOk (.bl a) (.bl b) ↔ True := ⟨fun _ => trivial, fun _ => .inl rfl⟩
theorem eqOk_si : eqOk (.str s) (.int j) ↔ True := ⟨fun _ => trivial, fun _ => .inl rfl⟩
theorem eqOk_is : eqOk (.int i) (.str s) ↔ True := ⟨fun _ => trivial, fun _ => .inl rfl⟩
theorem deq_i : deq (.int i) (.int j) = decide (i = j) := by rw [deq, Bool.eq_iff_iff, beq_iff_eq, decide_eq_true_iff]
theorem deq_s : deq (.str s) (.str t) = decide (s = t) := by rw [deq, Bool.eq_iff_iff, beq_iff_eq, decide_eq_true_iff]
theorem deq_b {a b : Bool} : deq (.bl a) (.bl b) = decide (a = b) := by cases a <;> cases b <;> rfl
theorem deq_si : deq (.str s) (.int j) = false := rfl
theorem deq_is : deq (.int i) (.str s) = false := rfl
theorem e_isN : sIsN [x, .non] Q ↔ x ≠ .hole ∧ Q (.bl (isNon x)) := ⟨fun ⟨_, e, h, q⟩ => by cases e; exact ⟨h, q⟩, fun ⟨h, q⟩ => ⟨_, rfl, h, q⟩⟩
theorem e_notN : sNotN [x, .non] Q ↔ x ≠ .hole ∧ Q (.bl (!isNon x)) := ⟨fun ⟨_, e, h, q⟩ => by cases e; exact ⟨h, q⟩, fun ⟨h, q⟩ => ⟨_, rfl, h, q⟩⟩
theorem e_isi {T : String} : sIsi [x, .ty T] Q ↔ ∃ t, tyNm x = some t ∧ T ∈ tys ∧ Q (.bl (isT t T)) := ⟨fun ⟨_, t, _, e, h1, h2, q⟩ => by cases e; exact ⟨t, h1, h2, q⟩, fun ⟨t, h1, h2, q⟩ => ⟨_, t, _, rfl, h1, h2, q⟩⟩
theorem e_lenS : sLen [.str s] Q ↔ s.length < 1000000 ∧ Q (.int s.length) := by
  constructor
  · rintro ⟨_, l, e, h, q⟩
    cases e
    have h : (if s.length < 1000000 then some s.length else none) = some l := h
    by_cases z : s.length < 1000000
    · rw [if_pos z] at h; cases h; exact ⟨z, q⟩
    · rw [if_neg z] at h; cases h
  · rintro ⟨z, q⟩
    exact ⟨_, _, rfl, if_pos z, q⟩
theorem e_lenL : sLen [.lst m xs] Q ↔ Q (.int xs.length) := ⟨fun ⟨_, _, e, h, q⟩ => by cases e; cases h; exact q, fun q => ⟨_, _, rfl, rfl, q⟩⟩
theorem e_lenT : sLen [.tup xs] Q ↔ Q (.int xs.length) := ⟨fun ⟨_, _, e, h, q⟩ => by cases e; cases h; exact q, fun q => ⟨_, _, rfl, rfl, q⟩⟩
theorem e_lenK {ks : List Kc} : sLen [.dK m ks xs] Q ↔ Q (.int xs.length) := ⟨fun ⟨_, _, e, h, q⟩ => by cases e; cases h; exact q, fun q => ⟨_, _, rfl, rfl, q⟩⟩
theorem e_lenDT {ks : List (List Kc)} : sLen [.dT m ks xs] Q ↔ Q (.int xs.length) := ⟨fun ⟨_, _, e, h, q⟩ => by cases e; cases h; exact q, fun q => ⟨_, _, rfl, rfl, q⟩⟩
theorem e_ix : sIx [c, k] Q ↔ ∃ d, ixD c k = some d ∧ isFz d = true ∧ Q d := ⟨fun ⟨_, _, d, e, h, z, q⟩ => by cases e; exact ⟨d, h, z, q⟩, fun ⟨d, h, z, q⟩ => ⟨_, _, d, rfl, h, z, q⟩⟩
theorem ixD_l : ixD (.lst m xs) (.int i) = (ixN xs.length i).bind fun j => xs[j]? := rfl
theorem ixD_t : ixD (.tup xs) (.int i) = (ixN xs.length i).bind fun j => xs[j]? := rfl
theorem e_in {b : Bool} : sIn b [x, c] Q ↔ ∃ r, memD x c = some r ∧ Q (.bl (if b then !r else r)) := ⟨fun ⟨_, _, r, e, h, q⟩ => by cases e; exact ⟨r, h, q⟩, fun ⟨r, h, q⟩ => ⟨_, _, r, rfl, h, q⟩⟩
theorem e_min : sMin [.int i, .int j] Q ↔ Q (.int (min i j)) := ⟨fun ⟨_, _, e, q⟩ => by cases e; exact q, fun q => ⟨_, _, rfl, q⟩⟩
theorem e_max : sMax [.int i, .int j] Q ↔ Q (.int (max i j)) := ⟨fun ⟨_, _, e, q⟩ => by cases e; exact q, fun q => ⟨_, _, rfl, q⟩⟩
theorem e_list : sList [x] Q ↔ ∃ ys, listD x = some ys ∧ isFzL ys = true ∧ Q (.lst true ys) := ⟨fun ⟨_, ys, e, h, z, q⟩ => by cases e; exact ⟨ys, h, z, q⟩, fun ⟨ys, h, z, q⟩ => ⟨_, ys, rfl, h, z, q⟩⟩
theorem e_tuple : sTuple [x] Q ↔ ∃ ys, seqD x = some ys ∧ isFzL ys = true ∧ Q (.tup ys) := ⟨fun ⟨_, ys, e, h, z, q⟩ => by cases e; exact ⟨ys, h, z, q⟩, fun ⟨ys, h, z, q⟩ => ⟨_, ys, rfl, h, z, q⟩⟩
theorem e_dict {ks : List Kc} : sDict [.dK m ks xs] Q ↔ isFzL xs = true ∧ Q (.dK true ks xs) := ⟨fun ⟨_, _, _, e, z, q⟩ => by cases e; exact ⟨z, q⟩, fun ⟨z, q⟩ => ⟨_, _, _, rfl, z, q⟩⟩
theorem e_rev : sRev [.lst m xs] Q ↔ isFzL xs = true ∧ Q (.lst true xs.reverse) := ⟨fun ⟨_, _, e, z, q⟩ => by cases e; exact ⟨z, q⟩, fun ⟨z, q⟩ => ⟨_, _, rfl, z, q⟩⟩
theorem e_dget2 : sDGet2 [c, k, x] Q ↔ isFz x = true ∧ ∃ d, dget2D c k x = some d ∧ isFz d = true ∧ Q d := ⟨fun ⟨_, _, _, d, e, h1, h2, z, q⟩ => by cases e; exact ⟨h1, d, h2, z, q⟩, fun ⟨h1, d, h2, z, q⟩ => ⟨_, _, _, d, rfl, h1, h2, z, q⟩⟩
theorem e_eqD {b : Bool} {ks ls : List Kc} : sEqD b [.dK m ks xs, .dK n ls ys] Q ↔ likeD ks xs ls ys ∧ Q (.bl b) := ⟨fun ⟨_, _, _, _, _, _, e, h, q⟩ => by cases e; exact ⟨h, q⟩, fun ⟨h, q⟩ => ⟨_, _, _, _, _, _, rfl, h, q⟩⟩
theorem e_slS {lo hi : Option Int} {P : D → Prop} : (∃ d, sliceD (.str s) lo hi = some d ∧ P d) ↔ s.length < 1000000 ∧ P (.str (cutL s lo hi)) := by
  constructor
  · rintro ⟨d, h, q⟩
    have h : (if s.length < 1000000 then some (D.str (cutL s lo hi)) else none) = some d := h
    by_cases z : s.length < 1000000
    · rw [if_pos z] at h; cases h; exact ⟨z, q⟩
    · rw [if_neg z] at h; cases h
  · rintro ⟨z, q⟩
    exact ⟨_, if_pos z, q⟩
theorem e_slL {lo hi : Option Int} {P : D → Prop} : (∃ d, sliceD (.lst m xs) lo hi = some d ∧ P d) ↔ isFzL xs = true ∧ P (.lst true (cutL xs lo hi)) := by
  constructor
  · rintro ⟨d, h, q⟩
    have h : (if isFzL xs = true then some (D.lst true (cutL xs lo hi)) else none) = some d := h
    by_cases z : isFzL xs = true
    · rw [if_pos z] at h; cases h; exact ⟨z, q⟩
    · rw [if_neg z] at h; cases h
  · rintro ⟨z, q⟩
    exact ⟨_, if_pos z, q⟩
theorem e_slT {lo hi : Option Int} {P : D → Prop} : (∃ d, sliceD (.tup xs) lo hi = some d ∧ P d) ↔ isFzL xs = true ∧ P (.tup (cutL xs lo hi)) := by
  constructor
  · rintro ⟨d, h, q⟩
    have h : (if isFzL xs = true then some (D.tup (cutL xs lo hi)) else none) = some d := h
    by_cases z : isFzL xs = true
    · rw [if_pos z] at h; cases h; exact ⟨z, q⟩
    · rw [if_neg z] at h; cases h
  · rintro ⟨z, q⟩
    exact ⟨_, if_pos z, q⟩
end
theorem isDct_K {m : Bool} {ks : List Kc} {xs : List D} : isDct (.dK m ks xs) = true := rfl
theorem isDct_T {m : Bool} {ks : List (List Kc)} {xs : List D} : isDct (.dT m ks xs) = true := rfl
/-- handed arg a, with pre a, it answers r with post a r, the arguments being out a r then -/
def Psp {α : Type} (arg : α → List D) (pre : α → Prop) (post : α → D → Prop) (out : α → D → List D := fun a _ => arg a) : VSp := fun ds Q _ => ∃ a, ds = arg a ∧ pre a ∧ ∀ r, post a r → Q r (out a r)
theorem Psp.mono {α : Type} {arg : α → List D} {pre : α → Prop} {post : α → D → Prop} {out : α → D → List D} : Mono (Psp arg pre post out) := fun _ _ _ _ _ h _ ⟨a, e, p, q⟩ => ⟨a, e, p, fun r z => h _ _ (q r z)⟩
/-- the same by a function of the arguments -/
def Fsp {α : Type} (arg : α → List D) (pre : α → Prop) (res : α → D) (out : α → List D := arg) : VSp := fun ds Q _ => ∃ a, ds = arg a ∧ pre a ∧ Q (res a) (out a)
theorem Fsp.mono {α : Type} {arg : α → List D} {pre : α → Prop} {res : α → D} {out : α → List D} : Mono (Fsp arg pre res out) := fun _ _ _ _ _ h _ ⟨a, e, p, q⟩ => ⟨a, e, p, h _ _ q⟩
end VL
namespace VL
open PySem PySem.Spec PyProof.Rows L2 VL
theorem pmod_lit (i : Int) (n : Nat) [NeZero n] : pmod i (no_index (OfNat.ofNat n)) = i % (OfNat.ofNat n) := if_pos (by
  have : 0 < n := Nat.pos_of_ne_zero (NeZero.ne n)
  show (0 : Int) < (n : Int)
  omega)
theorem pdiv_lit (i : Int) (n : Nat) [NeZero n] : pdiv i (no_index (OfNat.ofNat n)) = i / (OfNat.ofNat n) := if_pos (by
  have : 0 < n := Nat.pos_of_ne_zero (NeZero.ne n)
  show (0 : Int) < (n : Int)
  omega)
theorem pmod_pos {i j : Int} (h : 0 < j) : pmod i j = i % j := if_pos h
theorem pdiv_pos {i j : Int} (h : 0 < j) : pdiv i j = i / j := if_pos h
theorem cml_r {i j : Int} (h : j.natAbs < 18446744073709551616) : CMl i j ↔ True := ⟨fun _ => trivial, fun _ => .inl (.inr h)⟩
theorem cml_l {i j : Int} (h : i.natAbs < 18446744073709551616) : CMl i j ↔ True := ⟨fun _ => trivial, fun _ => .inl (.inl h)⟩
theorem cml_lit_r (i : Int) (n : Nat) (h : n < 18446744073709551616) : CMl i (no_index (OfNat.ofNat n)) ↔ True := cml_r h
theorem cml_lit_l (i : Int) (n : Nat) (h : n < 18446744073709551616) : CMl (no_index (OfNat.ofNat n)) i ↔ True := cml_l h
theorem cpow_lit (m n : Nat) (h1 : n ≤ 1000000) (h2 : m < 18446744073709551616) : CPow (no_index (OfNat.ofNat m)) (no_index (OfNat.ofNat n)) ↔ True := ⟨fun _ => trivial, fun _ => ⟨Int.natCast_nonneg n, by show ((n : Nat) : Int) ≤ 1000000; omega, h2⟩⟩
theorem cdv_of {i j : Int} (h : j ≠ 0) (h2 : j.natAbs < 18446744073709551616) : CDv i j := ⟨h, by
  have h3 : j.natAbs ≠ 0 := by omega
  have : j.natAbs.log2 < 64 := (Nat.log2_lt h3).mpr h2
  omega⟩
theorem cdv_lit (i : Int) (n : Nat) [NeZero n] (h : n < 18446744073709551616) : CDv i (no_index (OfNat.ofNat n)) ↔ True := ⟨fun _ => trivial, fun _ => cdv_of (by
  have : 0 < n := Nat.pos_of_ne_zero (NeZero.ne n)
  show (n : Int) ≠ 0
  omega) h⟩
theorem ixN_nat {n i : Nat} (h : i < n) : ixN n (i : Int) = some i := by
  unfold ixN
  rw [if_pos (by omega), if_pos (by omega), Int.toNat_natCast]
theorem ixN_pos {n : Nat} {i : Int} (h0 : 0 ≤ i) (h : i < n) : ixN n i = some i.toNat := by
  unfold ixN
  rw [if_pos h0, if_pos h]
theorem ixN_lit (n i : Nat) (h : i < n) : ixN n (no_index (OfNat.ofNat i)) = some i := ixN_nat h
theorem getP_nilE {d : D} : getP d [] = some d := getP_nil d
theorem setP_nilE {d e : D} : setP d [] e = e := by cases d <;> rfl
theorem e_forU {N : VEnds} {ε : Ep} {g : VTG} {b b' : VTS} {d : D} {ds : List D} (h : b = b') : vForL g b (d :: ds) N ε ↔ g d ε fun ε1 => b' { N with nx := fun ε' => vForL g b ds N ε', ct := fun ε' => vForL g b ds N ε', bk := N.nx } ε1 := by subst h; rfl
theorem e_app {ds : List D} {y : D} {P : List D → D → Prop} : (∃ ds' res, muAppend ds [y] = some (ds', res) ∧ P ds' res) ↔ ds.length < 1000000 ∧ P (ds ++ [y]) .non := by
  constructor
  · rintro ⟨ds', res, h, p⟩
    have h : (if ds.length < 1000000 then some (ds ++ [y], D.non) else none) = some (ds', res) := h
    by_cases z : ds.length < 1000000
    · rw [if_pos z] at h; cases h; exact ⟨z, p⟩
    · rw [if_neg z] at h; cases h
  · rintro ⟨z, p⟩
    exact ⟨_, _, if_pos z, p⟩
theorem lst_inj {m n : Bool} {a b : List D} : (D.lst m a = D.lst n b) = (m = n ∧ a = b) := D.lst.injEq ..
theorem isT_nonetype_int : isT "NoneType" "int" = false := by decide
theorem isT_nonetype_bool : isT "NoneType" "bool" = false := by decide
theorem isT_nonetype_str : isT "NoneType" "str" = false := by decide
theorem isT_nonetype_list : isT "NoneType" "list" = false := by decide
theorem isT_nonetype_tuple : isT "NoneType" "tuple" = false := by decide
theorem isT_nonetype_dict : isT "NoneType" "dict" = false := by decide
theorem isT_int_int : isT "int" "int" = true := by decide
theorem isT_int_bool : isT "int" "bool" = false := by decide
theorem isT_int_str : isT "int" "str" = false := by decide
theorem isT_int_list : isT "int" "list" = false := by decide
theorem isT_int_tuple : isT "int" "tuple" = false := by decide
theorem isT_int_dict : isT "int" "dict" = false := by decide
theorem isT_bool_int : isT "bool" "int" = true := by decide
theorem isT_bool_bool : isT "bool" "bool" = true := by decide
theorem isT_bool_str : isT "bool" "str" = false := by decide
theorem isT_bool_list : isT "bool" "list" = false := by decide
theorem isT_bool_tuple : isT "bool" "tuple" = false := by decide
theorem isT_bool_dict : isT "bool" "dict" = false := by decide
theorem isT_str_int : isT "str" "int" = false := by decide
theorem isT_str_bool : isT "str" "bool" = false := by decide
theorem isT_str_str : isT "str" "str" = true := by decide
theorem isT_str_list : isT "str" "list" = false := by decide
theorem isT_str_tuple : isT "str" "tuple" = false := by decide
theorem isT_str_dict : isT "str" "dict" = false := by decide
theorem isT_list_int : isT "list" "int" = false := by decide
theorem isT_list_bool : isT "list" "bool" = false := by decide
theorem isT_list_str : isT "list" "str" = false := by decide
theorem isT_list_list : isT "list" "list" = true := by decide
theorem isT_list_tuple : isT "list" "tuple" = false := by decide
theorem isT_list_dict : isT "list" "dict" = false := by decide
theorem isT_tuple_int : isT "tuple" "int" = false := by decide
theorem isT_tuple_bool : isT "tuple" "bool" = false := by decide
theorem isT_tuple_str : isT "tuple" "str" = false := by decide
theorem isT_tuple_list : isT "tuple" "list" = false := by decide
theorem isT_tuple_tuple : isT "tuple" "tuple" = true := by decide
theorem isT_tuple_dict : isT "tuple" "dict" = false := by decide
theorem isT_dict_int : isT "dict" "int" = false := by decide
theorem isT_dict_bool : isT "dict" "bool" = false := by decide
theorem isT_dict_str : isT "dict" "str" = false := by decide
theorem isT_dict_list : isT "dict" "list" = false := by decide
theorem isT_dict_tuple : isT "dict" "tuple" = false := by decide
theorem isT_dict_dict : isT "dict" "dict" = true := by decide
theorem inT_int : ("int" ∈ tys) = True := eq_true (by decide)
theorem inT_bool : ("bool" ∈ tys) = True := eq_true (by decide)
theorem inT_str : ("str" ∈ tys) = True := eq_true (by decide)
theorem inT_list : ("list" ∈ tys) = True := eq_true (by decide)
theorem inT_tuple : ("tuple" ∈ tys) = True := eq_true (by decide)
theorem inT_dict : ("dict" ∈ tys) = True := eq_true (by decide)
end VL
namespace VL
open PySem PySem.Spec PyProof.Rows L2 VL
section
variable {K : PySem.W.Frag} {G H H' : Hp}
theorem Rp.view (hs : Sub G H) {d : D} {v : V} {F : List Addr} (r : Rp K G H d v F) : Rp K H H (frz d) v [] := Rp.freeze hs (fun _ _ => rfl) r
theorem Rp.up {d : D} {v : V} (r : Rp K H H d v []) (h : Sub H H') : Rp K H' H' d v [] := r.mono h fun _ z => nomatch z
theorem RpL.up {ds : List D} {vs : List V} (r : RpL K H H ds vs []) (h : Sub H H') : RpL K H' H' ds vs [] := r.mono h fun _ z => nomatch z
theorem si_view {ds : List D} {vs : List V} (r : RpL K H H ds vs []) : SIx K (callB H H []) H [] [] [] H [] ds vs :=
  ⟨Sub.refl, Sub.refl, ⟨rfl, rfl⟩, r, List.nodup_nil, (fun _ z => nomatch z), (fun _ z => nomatch z), (fun a o e => .inl e), (fun a o e _ => e), fun j v e => by simp [callB] at e⟩
end
/-- a view's reading: the slots stay as they are -/
abbrev VTV := Ep → (D → Prop) → Prop
abbrev VTVs := Ep → (List D → Prop) → Prop
structure VV (X : Cv) (e : Expr) (t : VTV) : Prop where
  ex : ∃ t' : WX → TE, (∀ W, Takes X.toCx W → PE X.toCx e (t' W)) ∧ ∀ (b : Bx X) σ H ε T Tv W (Q : D → Prop) (Q' : VK), SI X.K b.1 σ H ε T Tv → t ε Q →
    (∀ d v H', Sub H H' → Rp X.K H' H' d v [] → Q d → Q' v H') → t' W σ H Q'
structure VVs (X : Cv) (es : List Expr) (t : VTVs) : Prop where
  ex : ∃ t' : WX → TA, (∀ W, Takes X.toCx W → PA X.toCx es (t' W)) ∧ ∀ (b : Bx X) σ H ε T Tv W (Q : List D → Prop) (Q' : List V → Hp → Prop), SI X.K b.1 σ H ε T Tv → t ε Q →
    (∀ ds vs H', Sub H H' → RpL X.K H' H' ds vs [] → ds.length = es.length → Q ds → Q' vs H') → t' W σ H Q'
section
variable {X : Cv}
def wName (i : Nat) : VTV := fun ε Q => ∃ d, ε[i]? = some (some d) ∧ Q (frz d)
def wC (d : D) : VTV := fun _ Q => Q d
def wNil : VTVs := fun _ Q => Q []
def wCons (t : VTV) (u : VTVs) : VTVs := fun ε Q => t ε fun d => u ε fun ds => Q (d :: ds)
def wOp (op : List D → (D → Prop) → Prop) (t : VTVs) : VTV := fun ε Q => t ε fun ds => op ds fun d => Q (frz d)
def w2 (a b : VTV) : VTVs := wCons a (wCons b wNil)
def w1 (a : VTV) : VTVs := wCons a wNil
def wCall (vsp : VSp) (t : VTVs) : VTV := fun ε Q => t ε fun ds => vsp ds (fun r _ => Q (frz r)) (fun _ _ _ => False)
def wTup (t : VTVs) : VTV := fun ε Q => t ε fun ds => ds.length ≤ 1000 ∧ Q (.tup ds)
def vView (t : VTV) : VTE := fun _ ε Q => t ε fun d => flatD d = true ∧ Q d ε
def vViewT (t : VTV) : VTT := fun _ ε Q => t ε fun d => ∃ c, d = .bl c ∧ Q c ε
theorem wv_name (i : Nat) {x : Str} {pos : Pos} (hN : X.N[i]? = some x := by rfl) (hv : Vis X.env.scope x := by first | exact Or.inl rfl | exact Or.inr (Or.inl rfl) | exact Or.inr (Or.inr rfl)) (hd : (x == ("__debug__" : Str)) = false := by decide) (hcd : (x == ("__classdict__" : Str)) = false := by decide) : VV X (.Name x pos) (wName i) := by
  refine ⟨fun _ => tVar i, fun _ _ => pe_var hN hv hd hcd, fun b σ H ε T Tv W Q Q' I h k => ?_⟩
  obtain ⟨d, e, q⟩ := h
  obtain ⟨v, hs, J⟩ := I.mov e
  obtain ⟨G, F, su, r⟩ := J.last I.lenT
  exact ⟨v, hs, k (frz d) v H Sub.refl (r.view su) q⟩
theorem wv_of {e : Expr} {v : V} {d : D} (h : PE X.toCx e (tC v)) (r : ∀ G H, Rp X.K G H d v []) : VV X e (wC d) :=
  ⟨fun _ => tC v, fun _ _ => h, fun b σ H ε T Tv W Q Q' I q k => k d v H Sub.refl (r H H) q⟩
theorem wv_int {i j pos} : VV X (.Constant (.int i) j pos) (wC (.int i)) := wv_of pe_int fun _ _ => ⟨rfl, rfl⟩
theorem wvs_nil : VVs X [] wNil := ⟨fun _ => tNil, fun _ _ => pa_nil, fun b σ H ε T Tv W Q Q' I q k => k [] [] H Sub.refl ⟨rfl, rfl⟩ rfl q⟩
theorem wvs_cons {e : Expr} {es : List Expr} {t : VTV} {u : VTVs} (h : VV X e t) (k : VVs X es u) (hs : starEach (e :: es) X.env = (false, eval e X.env) :: starEach es X.env := by rfl) : VVs X (e :: es) (wCons t u) := by
  obtain ⟨t', h1, h2⟩ := h.ex
  obtain ⟨u', k1, k2⟩ := k.ex
  refine ⟨fun W => tCons (t' W) (u' W), fun W tk => pa_cons (h1 W tk) (k1 W tk) hs, fun b σ H ε T Tv W Q Q' I q z => ?_⟩
  refine h2 b σ H ε T Tv W _ _ I q fun d v H1 s1 r1 q1 => ?_
  refine k2 b σ H1 ε T Tv W _ _ (I.grow s1) q1 fun ds vs H2 s2 r2 l q2 => ?_
  exact z (d :: ds) (v :: vs) H2 (s1.trans s2) ⟨v, vs, [], [], rfl, rfl, r1.up s2, r2⟩ (by simp [l]) q2
/-- an operation on views -/
theorem OpN.look {K : PySem.W.Frag} {r : List V → Hp → VK → Prop} {op : List D → (D → Prop) → Prop} (h : OpN K r op) {H : Hp} {ds : List D} {vs : List V} {Q : D → Prop} {Q' : VK} (rr : RpL K H H ds vs []) (q : op ds fun d => Q (frz d))
    (k : ∀ d v H', Sub H H' → Rp K H' H' d v [] → Q d → Q' v H') : r vs H Q' := by
  have I : SI K (callB H H []) [] H [] ([] ++ ds) ([] ++ vs) := ⟨H, [], [], si_view rr⟩
  refine h (callB H H []) [] H [] [] [] ds vs _ Q' rfl rr.len I q fun d v H' s J z => ?_
  have J2 : SI K (callB H H []) [] H' [] (ds ++ [d]) (vs ++ [v]) := by simpa using J
  obtain ⟨G, F, su, rd⟩ := J2.last rr.len
  exact k (frz d) v H' s (rd.view su) z
theorem wv_cmp {e1 e2 : Expr} {o : CmpOp} {ta tb : VTV} {r : R2} {op : List D → (D → Prop) → Prop} {pos : Pos} (ho : OpR X.toCx (compareOp o) r) (hp : OpN X.K (r2N r) op) (ha : VV X e1 ta) (hb : VV X e2 tb) (hm : behindInMarks o e2 = false) : VV X (.Compare e1 [o] [e2] pos) (wOp op (w2 ta tb)) := by
  obtain ⟨ta', a1, a2⟩ := ha.ex
  obtain ⟨tb', b1, b2⟩ := hb.ex
  refine ⟨fun W => tOp r (ta' W) (tb' W), fun W tk => pe_cmpR ho (a1 W tk) (b1 W tk) hm, fun b σ H ε T Tv W Q Q' I q k => ?_⟩
  refine a2 b σ H ε T Tv W _ _ I q fun d v H1 s1 r1 q1 => b2 b σ H1 ε T Tv W _ _ (I.grow s1) q1 fun d2 v2 H2 s2 r2 q2 => ?_
  obtain ⟨v', w', e, z⟩ := hp.look (ds := [d, d2]) (vs := [v, v2]) (H := H2) (Q' := Q') ⟨v, _, [], [], rfl, rfl, r1.up s2, v2, [], [], [], rfl, rfl, r2, rfl, rfl⟩ q2 fun d v H' s r z => k d v H' ((s1.trans s2).trans s) r z
  obtain ⟨rfl, e2⟩ := List.cons.inj e
  obtain ⟨rfl, _⟩ := List.cons.inj e2
  exact z
theorem vt_cmpW {e1 e2 : Expr} {o : CmpOp} {ta tb : VTV} {r : R2} {op : List D → (D → Prop) → Prop} {pos : Pos} (ho : OpR X.toCx (compareOp o) r) (hp : OpN X.K (r2N r) op) (ha : VV X e1 ta) (hb : VV X e2 tb) (hm : behindInMarks o e2 = false) : VT X (.Compare e1 [o] [e2] pos) (vViewT (wOp op (w2 ta tb))) := by
  obtain ⟨ta', a1, a2⟩ := ha.ex
  obtain ⟨tb', b1, b2⟩ := hb.ex
  refine ⟨fun W => tTest (tOp r (ta' W) (tb' W)), fun W tk => pt_cmpR ho (a1 W tk) (b1 W tk) hm, fun b σ H ε T Tv W N Q Q' I q k x => ?_⟩
  refine a2 b σ H ε T Tv W _ _ I q fun d v H1 s1 r1 q1 => b2 b σ H1 ε T Tv W _ _ (I.grow s1) q1 fun d2 v2 H2 s2 r2 q2 => ?_
  obtain ⟨v', w', e, z⟩ := hp.look (ds := [d, d2]) (vs := [v, v2]) (H := H2) (Q := fun d => ∃ c, d = .bl c ∧ Q c ε) (Q' := fun u H' => ∃ c, u = .bl c ∧ Q' c H') ⟨v, _, [], [], rfl, rfl, r1.up s2, v2, [], [], [], rfl, rfl, r2, rfl, rfl⟩ q2 fun d v H' s r z => by
    obtain ⟨c, rfl, z⟩ := z
    obtain ⟨rfl, _⟩ := r
    exact ⟨c, rfl, k c ε H' (I.grow ((s1.trans s2).trans s)) z⟩
  obtain ⟨rfl, e2⟩ := List.cons.inj e
  obtain ⟨rfl, _⟩ := List.cons.inj e2
  exact z
theorem wv_ix {a bb : Expr} {ta tb : VTV} {pos : Pos} {k : Nat} (hr : Room k X.A) (ha : VV X a ta) (hb : VV X bb tb) (hs : PlainIx bb) : VV X (.Subscript a bb pos) (wOp sIx (w2 ta tb)) := by
  obtain ⟨ta', a1, a2⟩ := ha.ex
  obtain ⟨tb', b1, b2⟩ := hb.ex
  refine ⟨fun W => tOp (rIxA X.K) (ta' W) (tb' W), fun W tk => pe_ix (ix_any hr) (a1 W tk) (b1 W tk) hs, fun b σ H ε T Tv W Q Q' I q k => ?_⟩
  refine a2 b σ H ε T Tv W _ _ I q fun d v H1 s1 r1 q1 => b2 b σ H1 ε T Tv W _ _ (I.grow s1) q1 fun d2 v2 H2 s2 r2 q2 => ?_
  obtain ⟨v', w', e, z⟩ := opn_ix.look (ds := [d, d2]) (vs := [v, v2]) (H := H2) (Q' := Q') ⟨v, _, [], [], rfl, rfl, r1.up s2, v2, [], [], [], rfl, rfl, r2, rfl, rfl⟩ q2 fun d v H' s r z => k d v H' ((s1.trans s2).trans s) r z
  obtain ⟨rfl, e2⟩ := List.cons.inj e
  obtain ⟨rfl, _⟩ := List.cons.inj e2
  exact z
theorem wv_callB {x : Str} {id : String} {p pos : Pos} {e : Expr} {es : List Expr} {t : VTVs} {r : List V → Hp → VK → Prop} {op : List D → (D → Prop) → Prop} (hc : CallR X.toCx (.builtin id) r) (hp : OpN X.K r op) (hg : Gl X.toCx x) (hm : X.mg x = none) (hv : bootBuiltins x = some (.builtin id)) (ha : VVs X (e :: es) t)
    (hn : x ≠ "__name__" := by decide) (hdb : (x == ("__debug__" : Str)) = false := by decide) (he : starEach (e :: es) X.env = (false, eval e X.env) :: starEach es X.env := by rfl) (hpl : (backTo pos (starEach es X.env)).any (·.1) = false := by rfl) : VV X (.Call (.Name x p) (e :: es) [] pos) (wOp op t) := by
  obtain ⟨t', a1, a2⟩ := ha.ex
  refine ⟨fun W => tCB r (t' W), fun W tk => pe_callB hc hg hm hv (a1 W tk) hn hdb he hpl, fun b σ H ε T Tv W Q Q' I q k => ?_⟩
  exact a2 b σ H ε T Tv W _ _ I q fun ds vs H1 s1 rr _ z => hp.look rr z fun d v H' s r z => k d v H' (s1.trans s) r z
/-- a call of a def that only reads -/
theorem wv_call {x : Str} {p pos : Pos} {e : Expr} {es : List Expr} {t : VTVs} {k n : Nat} {vsp : VSp} (F : Fv X.prog X.w X.K X.mg X.base x k n vsp) (m : Mono vsp) (hr : Room k X.A) (hg : Gl X.toCx x) (hn : (e :: es).length = n) (ha : VVs X (e :: es) t)
    (hdb : (x == ("__debug__" : Str)) = false := by decide) (he : starEach (e :: es) X.env = (false, eval e X.env) :: starEach es X.env := by rfl) (hpl : (backTo pos (starEach es X.env)).any (·.1) = false := by rfl) :
    VV X (.Call (.Name x p) (e :: es) [] pos) (wCall vsp t) := by
  obtain ⟨f, fd, ps, hm, hk, hb, F⟩ := F.ex
  obtain ⟨t', a1, a2⟩ := ha.ex
  refine ⟨fun W => tCallS (Lift X.K n vsp) (WE W) (t' W), fun W tk => pe_callS F hr hg hm hk hb (fun σ => passAt tk σ) (a1 W tk) hdb he hpl, fun b σ H ε T Tv W Q Q' I q kk => ?_⟩
  refine a2 b σ H ε T Tv W _ _ I q fun ds vs H1 s1 rr l z => ?_
  refine ⟨H1, [], ds, si_view rr, by rw [l, hn], m _ _ _ _ _ (fun r ds' q' v H' I' => ?_) (fun _ _ _ z => z.elim) z⟩
  have l2 : ds'.length = vs.length := by
    have := I'.lenT
    simpa using this
  obtain ⟨G, F, su, rd⟩ := I'.last l2
  have s2 : Sub H1 H' := by
    obtain ⟨_, _, _, J⟩ := I'
    exact fun a o e => J.keep a o e (fun z => nomatch z)
  exact kk (frz r) v H' (s1.trans s2) (rd.view su) q'
theorem ve_view {e : Expr} {t : VTV} (h : VV X e t) : VE X e (vView t) := by
  obtain ⟨t', h1, h2⟩ := h.ex
  refine ⟨t', h1, fun b σ H ε T Tv W N Q Q' I q k x => ?_⟩
  refine h2 b σ H ε T Tv W _ _ I q fun d v H1 s1 r1 z => ?_
  refine k d v ε H1 ((I.grow s1).push fun G => ?_) z.2
  obtain ⟨z, _⟩ := z
  cases d <;> first | (exfalso; revert z; simp [flatD]; done) | exact r1
def vNever : VTS := fun _ _ => False
def isLst : D → Bool
  | .lst _ _ => true
  | _ => false
def isStr : D → Bool
  | .str _ => true
  | _ => false
def tyOk (T : String) (d : D) : Bool := (decide (T = "list") && isLst d) || (decide (T = "str") && isStr d)
def wMeth (T : String) (op : List D → (D → Prop) → Prop) (o : VTV) (t : VTVs) : VTV := fun ε Q => o ε fun c => tyOk T c = true ∧ t ε fun ds => op (c :: ds) fun d => Q (frz d)
/-- xs.index(x) -/
def sIndex : List D → (D → Prop) → Prop := fun ds Q => ∃ m ys x j, ds = [.lst m ys, x] ∧ ((flatD x && ys.all flatD) = true ∨ (okD 64 x && okD 64 (.lst m ys)) = true) ∧ ys.findIdx? (fun y => deq y x) = some j ∧ Q (.int (j : Nat))
end
end VL
namespace VL
open PySem PySem.Spec PyProof.Rows L2 VL
section
variable {K : PySem.W.Frag} {G H : Hp}
def idxOk (m : Bool) (ys : List D) (x : D) : Prop := (flatD x && ys.all flatD) = true ∨ (okD 64 x && okD 64 (.lst m ys)) = true
def idxAt (ys : List D) (x : D) : Option Nat := ys.findIdx? (fun y => deq y x)
theorem e_index {m : Bool} {ys : List D} {x : D} {Q : D → Prop} : sIndex [.lst m ys, x] Q ↔ idxOk m ys x ∧ ∃ j, idxAt ys x = some j ∧ Q (.int (j : Nat)) :=
  ⟨fun ⟨_, _, _, j, e, h, hj, q⟩ => by cases e; exact ⟨h, j, hj, q⟩, fun ⟨h, j, hj, q⟩ => ⟨_, _, _, j, rfl, h, hj, q⟩⟩
/-- any, all of a list of truths -/
def blsD : List D → Option (List Bool)
  | [] => some []
  | .bl b :: ds => (blsD ds).map (b :: ·)
  | _ => none
def sAny : List D → (D → Prop) → Prop := fun ds Q => ∃ m xs bs, ds = [.lst m xs] ∧ blsD xs = some bs ∧ Q (.bl (bs.any id))
def sAll : List D → (D → Prop) → Prop := fun ds Q => ∃ m xs bs, ds = [.lst m xs] ∧ blsD xs = some bs ∧ Q (.bl (bs.all id))
theorem e_any {m : Bool} {xs : List D} {Q : D → Prop} : sAny [.lst m xs] Q ↔ ∃ bs, blsD xs = some bs ∧ Q (.bl (bs.any id)) := ⟨fun ⟨_, _, bs, e, h, q⟩ => by cases e; exact ⟨bs, h, q⟩, fun ⟨bs, h, q⟩ => ⟨_, _, bs, rfl, h, q⟩⟩
theorem e_all {m : Bool} {xs : List D} {Q : D → Prop} : sAll [.lst m xs] Q ↔ ∃ bs, blsD xs = some bs ∧ Q (.bl (bs.all id)) := ⟨fun ⟨_, _, bs, e, h, q⟩ => by cases e; exact ⟨bs, h, q⟩, fun ⟨bs, h, q⟩ => ⟨_, _, bs, rfl, h, q⟩⟩
end
section
variable {X : Cv}
/-- name op= e, ints -/
def vAug (f : Int → Int → Int) (i : Nat) (t : VTE) : VTS := fun N ε => ∃ x : Int, ε[i]? = some (some (.int x)) ∧ t N.rx ε fun d ε1 => ∃ y, d = .int y ∧ i < ε1.length ∧ N.nx (ε1.set i (some (.int (f x y))))
end
end VL
namespace VL
open PySem PySem.Spec PyProof.Rows L2 VL
theorem kap_of {κ : List Bool} {is : List Nat} (h : (is.all fun i => !(κ[i]? == some true)) = true) : ∀ i ∈ is, κ[i]? ≠ some true := fun i hi e => by
  have := List.all_eq_true.mp h i hi
  rw [e] at this
  cases this
section
variable {X : Cv}
theorem vs_setLcF {i : Nat} {y : Str} {py : Pos} {elt tg iter : Expr} {ifs : List Expr} {scope : Scope} {own : List (Str × Nat)} {pos spos : Pos} {wi : VTA} {g : VTG} {tt : VTT} {te : VTE} (hc : X.calm = true) (hN : X.N.Nodup) (ok : BlkOk X.N X.env.scope scope own) (hk : ∀ i ∈ own.map (·.2), X.κ[i]? ≠ some true) (hi : VI X tg iter wi)
    (hg : ∀ c : BI, VTo (X.blk c.1 c.2.1 scope c.2.2.1 c.2.2.2.1 c.2.2.2.2) (own.map (·.2)) tg g) (ht : ∀ c : BI, VTs (X.blk c.1 c.2.1 scope c.2.2.1 c.2.2.2.1 c.2.2.2.2) ifs tt) (he : ∀ c : BI, VE (X.blk c.1 c.2.1 scope c.2.2.1 c.2.2.2.1 c.2.2.2.2) elt te)
    (hy : X.N[i]? = some y) (hyl : X.env.scope.names.lookup y = some .local) (hky : X.κ[i]? ≠ some true) (hsw : swapsWith (.ListComp elt [⟨tg, iter, ifs, 0⟩] scope pos) (some (.Name y py)) spos.line X.env = pure true)
    (hs : ∀ x, foldedSetIterable iter X.env x = pure x := by intro _; rfl) : VS X (.Assign [.Name y py] (.ListComp elt [⟨tg, iter, ifs, 0⟩] scope pos) spos) (vAsg i (vStill (vLc (own.map (·.2)) wi g tt te))) := by
  obtain ⟨wi', w1, w2⟩ := hi.ex
  obtain ⟨g', tt', te', h1, h2, h3, run⟩ := lc_run hk hg ht he
  refine ⟨fun W => tAsg (tLc (wi' W) g' tt' te' (own.map (·.2))) (gName i), fun W tk => ps_setLc hc hN hy hyl hsw (w1 W tk) ok (fun s H C cl fp => h1 ⟨s, H, C, cl, fp⟩) (fun s H C cl fp => h2 ⟨s, H, C, cl, fp⟩) (fun s H C cl fp => h3 ⟨s, H, C, cl, fp⟩) hs, fun b σ H ε T Tv W N E I q l x => ?_⟩
  exact w2 b σ H ε T Tv W N.rx _ _ I q (fun ds R Rv J ε1 H1 I1 hr wk z => run b σ H1 ε1 T Tv R Rv ds J (fun acc ε' => i < ε'.length ∧ N.nx (ε'.set i (some (frz (.lst true acc))))) _ I1 I.lenT hr wk z fun acc v ε' H' I' z' => l.nx _ H' _ ((I'.freeze I.lenT).store I.lenT z'.1 (b.free hky)) z'.2) x
def wLst (t : VTVs) : VTV := fun ε Q => t ε fun ds => ds.length ≤ 1000 ∧ Q (.lst false ds)
end
end VL
namespace VL
open PySem PySem.Spec PyProof.Rows L2 VL
def setAt {α : Type} (l : List α) (z : α) (i : Nat) (x : α) : List α := (l ++ List.replicate (i + 1 - l.length) z).set i x
/-- the context in which slot i is kept -/
abbrev Cv.kp (X : Cv) (i : Nat) : Cv := { X with κ := setAt X.κ false i true }
section
variable {X : Cv} {tg : Expr}
/-- for over a list of ours in slot i, moved out for the while -/
def vForO (i : Nat) (w : List D → List D) (g : VTG) (body : VTS) : VTS := fun N ε => ∃ m xs, ε[i]? = some (some (.lst m xs)) ∧ isFzL xs = true ∧
  vForL g body (w xs) { nx := fun ε' => N.nx (ε'.set i (some (.lst m xs))), rt := fun d ε' => N.rt d (ε'.set i (some (.lst m xs))), rx := N.rx } (ε.set i none)
end
end VL
namespace VL
open PySem PySem.Spec PyProof.Rows L2 VL
theorem vss_never {X : Cv} {st : List Stmt} : VSs X st vNever := ⟨fun _ => fun _ _ _ => False, fun _ _ => ⟨fun _ _ _ _ _ _ h => h.elim⟩, fun _ _ _ _ _ _ _ _ _ _ q _ _ => q.elim⟩
end VL
namespace VL
open PySem PySem.Spec PyProof.Rows L2 VL
/-- an operand: a number, a name -/
abbrev Opd := Sum Int Cs
def opD : Opd → D
  | .inl i => .int i
  | .inr s => .str s
theorem opD_fz (a : Opd) : isFz (opD a) = true := by cases a <;> rfl
def Cs.good (s : Cs) : Bool := s.all fun c => decide (c < 1114112)
def Opd.good : Opd → Bool
  | .inl _ => true
  | .inr s => Cs.good s
/-- a node of a graph -/
inductive Nd where
  | sum (x : Cs) (a : Opd) (s : Cs) (b : Opd) (to : Nat)
  | test (a : Opd) (s : Cs) (b : Opd) (y n : Nat)
  | fin
  | spin
abbrev cSum : Cs := [115, 117, 109]
abbrev cTest : Cs := [116, 101, 115, 116]
abbrev cEnd : Cs := [101, 110, 100]
abbrev cSpin : Cs := [115, 112, 105, 110]
def ndL : Nd → List D
  | .sum x a s b to => [.str cSum, .str x, opD a, .str s, opD b, .int (to : Int)]
  | .test a s b y n => [.str cTest, opD a, .str s, opD b, .int (y : Int), .int (n : Int)]
  | .fin => [.str cEnd]
  | .spin => [.str cSpin]
def ndD (x : Nd) : D := .tup (ndL x)
/-- its ways, the no ahead -/
def goals : Nd → List Nat
  | .sum _ _ _ _ to => [to]
  | .test _ _ _ y n => [n, y]
  | _ => []
def Nd.good : Nd → Bool
  | .sum x a s b _ => Cs.good x && (a.good && (Cs.good s && b.good))
  | .test a s b _ _ => a.good && (Cs.good s && b.good)
  | _ => true
def Nd.ok (n : Nat) (x : Nd) : Prop := ∀ g ∈ goals x, g < n
theorem isFzL_nd (x : Nd) : isFzL (ndL x) = true := by cases x <;> simp [ndL, isFzL, isFz, opD_fz]
theorem isFz_nd (x : Nd) : isFz (ndD x) = true := isFzL_nd x
theorem frz_nd (x : Nd) : frz (ndD x) = ndD x := frz_id (isFz_nd x)
theorem isFzL_nds (g : List Nd) : isFzL (g.map ndD) = true := by rw [isFzL_all]; simp [isFz_nd]
theorem frzL_nds (g : List Nd) : frzL (g.map ndD) = g.map ndD := by
  rw [frzL_map, List.map_map]
  exact List.map_congr_left fun x _ => frz_nd x
structure Wst where
  begun : List Nat
  trail : List (Nat × Nat)
  done : List Nat
section
variable (gl : Nat → List Nat)
def wstep : Wst → Wst
  | ⟨b, [], d⟩ => ⟨b, [], d⟩
  | ⟨b, (h, s) :: t, d⟩ => match (gl h)[s]? with
    | none => ⟨b, t, d ++ [h]⟩
    | some g => if g ∈ b then ⟨b, (h, s + 1) :: t, d⟩ else ⟨b ++ [g], (g, 0) :: (h, s + 1) :: t, d⟩
/-- what holds all along -/
structure WInvS (n st : Nat) (s : Wst) : Prop where
  rng : ∀ x ∈ s.begun, x < n
  le : ∀ p ∈ s.trail, p.2 ≤ (gl p.1).length
  mem : ∀ x, x ∈ s.begun ↔ x ∈ s.done ++ s.trail.map (·.1)
  nd : (s.done ++ s.trail.map (·.1)).Nodup
  nb : s.begun.Nodup
  last : (s.done ++ s.trail.map (·.1)).getLast? = some st
  dn : ∀ x ∈ s.done, ∀ g ∈ gl x, g ∈ s.begun
  tr : ∀ p ∈ s.trail, ∀ i g, i < p.2 → (gl p.1)[i]? = some g → g ∈ s.begun
  par : ∀ x ∈ s.done ++ s.trail.map (·.1), x ≠ st → ∃ A B p, s.done ++ s.trail.map (·.1) = A ++ x :: B ∧ p ∈ B ∧ x ∈ gl p
end
section
variable {gl : Nat → List Nat} {n : Nat}
theorem WInvS.start {st : Nat} (h0 : st < n) : WInvS gl n st ⟨[st], [(st, 0)], []⟩ where
  rng := fun x hx => by simp at hx; omega
  le := fun p hp => by simp at hp; subst hp; exact Nat.zero_le _
  mem := fun x => by simp
  nd := by simp
  nb := by simp
  last := rfl
  dn := fun x hx => by simp at hx
  tr := fun p hp i g hi => by simp at hp; subst hp; omega
  par := fun x hx hne => by simp at hx; exact absurd hx hne
theorem wstep_none {b : List Nat} {h k : Nat} {t : List (Nat × Nat)} {d : List Nat} (e : (gl h)[k]? = none) : wstep gl ⟨b, (h, k) :: t, d⟩ = ⟨b, t, d ++ [h]⟩ := by
  simp only [wstep, e]
theorem wstep_some {b : List Nat} {h k g : Nat} {t : List (Nat × Nat)} {d : List Nat} (e : (gl h)[k]? = some g) : wstep gl ⟨b, (h, k) :: t, d⟩ = if g ∈ b then ⟨b, (h, k + 1) :: t, d⟩ else ⟨b ++ [g], (g, 0) :: (h, k + 1) :: t, d⟩ := by
  simp only [wstep, e]
theorem WInvS.step {st : Nat} (hg : ∀ x < n, ∀ g ∈ gl x, g < n) {s : Wst} (I : WInvS gl n st s) : WInvS gl n st (wstep gl s) := by
  obtain ⟨b, t, d⟩ := s
  cases t with
  | nil => exact I
  | cons p t =>
    obtain ⟨h, k⟩ := p
    have hb : h ∈ b := (I.mem h).mpr (by simp)
    have kle : k ≤ (gl h).length := I.le (h, k) (by simp)
    cases e : (gl h)[k]? with
    | none =>
      rw [wstep_none e]
      have hk : k = (gl h).length := by
        have := List.getElem?_eq_none_iff.mp e
        omega
      have eo : (d ++ [h]) ++ t.map (·.1) = d ++ ((h, k) :: t).map (·.1) := by simp
      refine ⟨I.rng, fun p hp => I.le p (List.mem_cons_of_mem _ hp), fun x => ?_, ?_, I.nb, ?_, fun x hx g hgx => ?_, fun p hp => I.tr p (List.mem_cons_of_mem _ hp), ?_⟩
      · show x ∈ b ↔ x ∈ (d ++ [h]) ++ t.map (·.1)
        rw [eo]; exact I.mem x
      · show ((d ++ [h]) ++ t.map (·.1)).Nodup
        rw [eo]; exact I.nd
      · show ((d ++ [h]) ++ t.map (·.1)).getLast? = some st
        rw [eo]; exact I.last
      · rcases List.mem_append.mp hx with hx | hx
        · exact I.dn x hx g hgx
        · simp at hx
          subst hx
          obtain ⟨i, hi⟩ := List.mem_iff_getElem?.mp hgx
          exact I.tr (x, k) (by simp) i g (by rw [hk]; exact (List.getElem?_eq_some_iff.mp hi).1) hi
      · show ∀ x ∈ (d ++ [h]) ++ t.map (·.1), x ≠ st → ∃ A B p, (d ++ [h]) ++ t.map (·.1) = A ++ x :: B ∧ p ∈ B ∧ x ∈ gl p
        rw [eo]; exact I.par
    | some g =>
      have kl := (List.getElem?_eq_some_iff.mp e).1
      have gm : g ∈ gl h := List.mem_of_getElem? e
      rw [wstep_some e]
      split
      · rename_i hgb
        have em : ((h, k + 1) :: t).map (·.1) = ((h, k) :: t).map (·.1) := rfl
        refine ⟨I.rng, fun p hp => ?_, I.mem, I.nd, I.nb, I.last, I.dn, fun p hp i y hi hy => ?_, I.par⟩
        · rcases List.mem_cons.mp hp with rfl | hp
          · exact kl
          · exact I.le p (List.mem_cons_of_mem _ hp)
        · rcases List.mem_cons.mp hp with rfl | hp
          · by_cases hik : i = k
            · subst hik
              have : some g = some y := e.symm.trans hy
              cases this
              exact hgb
            · exact I.tr (h, k) (by simp) i y (by simp at hi; omega) hy
          · exact I.tr p (List.mem_cons_of_mem _ hp) i y hi hy
      · rename_i hgb
        have gn : g ∉ d ++ ((h, k) :: t).map (·.1) := fun z => hgb ((I.mem g).mpr z)
        have em : d ++ ((g, 0) :: (h, k + 1) :: t).map (·.1) = d ++ g :: ((h, k) :: t).map (·.1) := rfl
        refine ⟨fun x hx => ?_, fun p hp => ?_, fun x => ?_, ?_, List.nodup_append.mpr ⟨I.nb, by simp, fun a ha c hc e2 => by simp at hc; exact hgb (by rw [← hc, ← e2]; exact ha)⟩, ?_, fun x hx y hy => List.mem_append_left _ (I.dn x hx y hy), fun p hp i y hi hy => ?_, ?_⟩
        · rcases List.mem_append.mp hx with hx | hx
          · exact I.rng x hx
          · simp at hx; subst hx; exact hg h (I.rng h hb) x gm
        · rcases List.mem_cons.mp hp with rfl | hp
          · exact Nat.zero_le _
          rcases List.mem_cons.mp hp with rfl | hp
          · exact kl
          · exact I.le p (List.mem_cons_of_mem _ hp)
        · show x ∈ b ++ [g] ↔ x ∈ d ++ ((g, 0) :: (h, k + 1) :: t).map (·.1)
          rw [em, List.mem_append, I.mem x]
          simp only [List.mem_append, List.mem_cons, List.not_mem_nil, or_false]
          constructor
          · rintro ((h1 | h1) | h1)
            · exact .inl h1
            · exact .inr (.inr h1)
            · exact .inr (.inl h1)
          · rintro (h1 | h1 | h1)
            · exact .inl (.inl h1)
            · exact .inr h1
            · exact .inl (.inr h1)
        · show (d ++ g :: ((h, k) :: t).map (·.1)).Nodup
          have pm : (d ++ g :: ((h, k) :: t).map (·.1)).Perm (g :: (d ++ ((h, k) :: t).map (·.1))) := List.perm_middle
          exact pm.nodup_iff.mpr (List.nodup_cons.mpr ⟨gn, I.nd⟩)
        · show (d ++ g :: ((h, k) :: t).map (·.1)).getLast? = some st
          have h1 := I.last
          have : ∀ (A B : List Nat), B ≠ [] → (A ++ B).getLast? = B.getLast? := fun A B hB => by
            rw [List.getLast?_append]
            cases hq : B.getLast? with
            | none => exact absurd (List.getLast?_eq_none_iff.mp hq) hB
            | some z => rfl
          have h2 : (d ++ ((h, k) :: t).map (·.1)).getLast? = (((h, k) :: t).map (·.1)).getLast? := this _ _ (by simp)
          have h1' : (d ++ ((h, k) :: t).map (·.1)).getLast? = some st := h1
          rw [this _ _ (by simp), List.getLast?_cons]
          rw [h2] at h1'
          rw [h1']
          rfl
        · rcases List.mem_cons.mp hp with rfl | hp
          · simp at hi
          rcases List.mem_cons.mp hp with rfl | hp
          · by_cases hik : i = k
            · subst hik
              have : some g = some y := e.symm.trans hy
              cases this
              simp
            · exact List.mem_append_left _ (I.tr (h, k) (by simp) i y (by simp at hi; omega) hy)
          · exact List.mem_append_left _ (I.tr p (List.mem_cons_of_mem _ hp) i y hi hy)
        · show ∀ x ∈ d ++ g :: ((h, k) :: t).map (·.1), x ≠ st → ∃ A B p, d ++ g :: ((h, k) :: t).map (·.1) = A ++ x :: B ∧ p ∈ B ∧ x ∈ gl p
          intro x hx hne
          by_cases hxg : x = g
          · subst hxg
            exact ⟨d, ((h, k) :: t).map (·.1), h, rfl, by simp, gm⟩
          · have hx2 : x ∈ d ++ ((h, k) :: t).map (·.1) := by
              rcases List.mem_append.mp hx with hx | hx
              · exact List.mem_append_left _ hx
              · rcases List.mem_cons.mp hx with hx | hx
                · exact absurd hx hxg
                · exact List.mem_append_right _ hx
            obtain ⟨A, B, p, eo, hp, hxp⟩ := I.par x hx2 hne
            have eo : d ++ ((h, k) :: t).map (·.1) = A ++ x :: B := eo
            rcases List.append_eq_append_iff.mp eo with ⟨C, e1, e2⟩ | ⟨C, e1, e2⟩
            · -- A = d ++ C
              exact ⟨d ++ g :: C, B, p, by rw [e2]; simp, hp, hxp⟩
            · -- d = A ++ C
              cases C with
              | nil =>
                have e2' : x :: B = ((h, k) :: t).map (·.1) := e2
                exact ⟨d ++ [g], B, p, by rw [← e2']; simp, hp, hxp⟩
              | cons c C =>
                obtain ⟨rfl, rfl⟩ := List.cons.inj e2
                refine ⟨A, C ++ g :: ((h, k) :: t).map (·.1), p, by rw [e1]; simp, ?_, hxp⟩
                rcases List.mem_append.mp hp with hp | hp
                · exact List.mem_append_left _ hp
                · exact List.mem_append_right _ (List.mem_cons_of_mem _ hp)
inductive Pthv (f : Nat → List Nat) (S : Nat → Prop) (a : Nat) : Nat → Prop
  | self : S a → Pthv f S a a
  | step {k t : Nat} : Pthv f S a k → t ∈ f k → S t → Pthv f S a t
theorem Pthv.mono {f : Nat → List Nat} {S S' : Nat → Prop} {a k : Nat} (h : ∀ y, S y → S' y) (p : Pthv f S a k) : Pthv f S' a k := by
  induction p with
  | self s => exact .self (h _ s)
  | step _ m s ih => exact .step ih m (h _ s)
def Anc (gl : Nat → List Nat) (L : List Nat) (g x : Nat) : Prop := List.Sublist [g, x] L ∨ Pthv gl (fun y => y = g ∨ List.Sublist [y, g] L) g x
theorem Anc.mono {L L' : List Nat} {g x : Nat} (h : L.Sublist L') : Anc gl L g x → Anc gl L' g x
  | .inl a => .inl (a.trans h)
  | .inr p => .inr (p.mono fun _ hy => hy.imp id fun z => z.trans h)
structure WAnc (gl : Nat → List Nat) (s : Wst) : Prop where
  ch : ∀ (i : Nat) (p q : Nat × Nat), s.trail[i]? = some p → s.trail[i + 1]? = some q → p.1 ∈ gl q.1
  dn : ∀ x ∈ s.done, ∀ g ∈ gl x, Anc gl (s.done ++ s.trail.map (·.1)) g x
  tr : ∀ p ∈ s.trail, ∀ i g, i < p.2 → (gl p.1)[i]? = some g → Anc gl (s.done ++ s.trail.map (·.1)) g p.1
theorem trail_path {L : List Nat} : ∀ (t : List (Nat × Nat)) (g : Nat), (∀ (i : Nat) (p q : Nat × Nat), t[i]? = some p → t[i + 1]? = some q → p.1 ∈ gl q.1) → (t.map (·.1)).Sublist L → g ∈ t.map (·.1) → ∀ h, (t.map (·.1)).head? = some h → Pthv gl (fun y => y = g ∨ List.Sublist [y, g] L) g h
  | [], g, _, _, hg, _, _ => by cases hg
  | [p], g, _, _, hg, h, hh => by
    simp at hg hh
    subst hg
    subst hh
    exact .self (.inl rfl)
  | p :: q :: t, g, ch, sl, hg, h, hh => by
    simp at hh
    subst hh
    by_cases e : g = p.1
    · subst e; exact .self (.inl rfl)
    · have hg2 : g ∈ (q :: t).map (·.1) := by
        rcases List.mem_cons.mp hg with z | z
        · exact absurd z e
        · exact z
      have sl2 : ((q :: t).map (·.1)).Sublist L := (List.sublist_cons_self p.1 _).trans sl
      have ih := trail_path (q :: t) g (fun i a b h1 h2 => ch (i + 1) a b h1 h2) sl2 hg2 q.1 rfl
      refine .step ih (ch 0 p q rfl rfl) (.inr (List.Sublist.trans ?_ sl))
      exact List.Sublist.cons_cons p.1 (List.singleton_sublist.mpr hg2)
theorem WAnc.start {st : Nat} : WAnc gl ⟨[st], [(st, 0)], []⟩ where
  ch := fun i p q _ h2 => by simp at h2
  dn := fun x hx => by simp at hx
  tr := fun p hp i g hi => by simp at hp; subst hp; omega
theorem WAnc.step {st : Nat} {s : Wst} (I : WInvS gl n st s) (J : WAnc gl s) : WAnc gl (wstep gl s) := by
  obtain ⟨b, t, d⟩ := s
  cases t with
  | nil => exact J
  | cons p t =>
    obtain ⟨h, k⟩ := p
    have kle : k ≤ (gl h).length := I.le (h, k) (by simp)
    cases e : (gl h)[k]? with
    | none =>
      rw [wstep_none e]
      have hk : k = (gl h).length := by
        have := List.getElem?_eq_none_iff.mp e
        omega
      have eo : (d ++ [h]) ++ t.map (·.1) = d ++ ((h, k) :: t).map (·.1) := by simp
      refine ⟨fun i p q h1 h2 => J.ch (i + 1) p q h1 h2, fun x hx g hg => ?_, fun p hp i g hi hgi => ?_⟩
      · show Anc gl ((d ++ [h]) ++ t.map (·.1)) g x
        rw [eo]
        rcases List.mem_append.mp hx with hx | hx
        · exact J.dn x hx g hg
        · simp at hx
          subst hx
          obtain ⟨i, hi⟩ := List.mem_iff_getElem?.mp hg
          exact J.tr (x, k) (by simp) i g (by rw [hk]; exact (List.getElem?_eq_some_iff.mp hi).1) hi
      · show Anc gl ((d ++ [h]) ++ t.map (·.1)) g p.1
        rw [eo]
        exact J.tr p (List.mem_cons_of_mem _ hp) i g hi hgi
    | some g =>
      have gm : g ∈ gl h := List.mem_of_getElem? e
      have hch : ∀ (i : Nat) (p q : Nat × Nat), ((h, k + 1) :: t)[i]? = some p → ((h, k + 1) :: t)[i + 1]? = some q → p.1 ∈ gl q.1 := fun i p q h1 h2 => by
        cases i with
        | zero =>
          cases h1
          exact J.ch 0 (h, k) q rfl h2
        | succ i => exact J.ch (i + 1) p q h1 h2
      rw [wstep_some e]
      split
      · rename_i hgb
        have hA : Anc gl (d ++ ((h, k) :: t).map (·.1)) g h := by
          rcases List.mem_append.mp ((I.mem g).mp hgb) with hd | ht
          · left
            exact List.Sublist.append (l₁ := [g]) (r₁ := [h]) (List.singleton_sublist.mpr hd) (List.singleton_sublist.mpr (by simp))
          · right
            exact trail_path ((h, k) :: t) g J.ch (List.sublist_append_right d _) ht h rfl
        refine ⟨hch, J.dn, fun p hp i y hi hy => ?_⟩
        show Anc gl (d ++ ((h, k) :: t).map (·.1)) y p.1
        rcases List.mem_cons.mp hp with rfl | hp
        · by_cases hik : i = k
          · subst hik
            have : some g = some y := e.symm.trans hy
            cases this
            exact hA
          · exact J.tr (h, k) (by simp) i y (by simp at hi; omega) hy
        · exact J.tr p (List.mem_cons_of_mem _ hp) i y hi hy
      · have sl : (d ++ ((h, k) :: t).map (·.1)).Sublist (d ++ ((g, 0) :: (h, k + 1) :: t).map (·.1)) := List.Sublist.append (List.Sublist.refl d) (List.sublist_cons_self g _)
        refine ⟨fun i p q h1 h2 => ?_, fun x hx y hy => (J.dn x hx y hy).mono sl, fun p hp i y hi hy => ?_⟩
        · cases i with
          | zero =>
            cases h1
            cases h2
            exact gm
          | succ i => exact hch i p q h1 h2
        · rcases List.mem_cons.mp hp with rfl | hp
          · simp at hi
          rcases List.mem_cons.mp hp with rfl | hp
          · by_cases hik : i = k
            · subst hik
              have : some g = some y := e.symm.trans hy
              cases this
              left
              exact List.Sublist.trans (List.Sublist.cons_cons g (List.singleton_sublist.mpr (by simp))) (List.sublist_append_right d _)
            · exact (J.tr (h, k) (by simp) i y (by simp at hi; omega) hy).mono sl
          · exact (J.tr p (List.mem_cons_of_mem _ hp) i y hi hy).mono sl
end
theorem nodup_get {l : List Nat} (nd : l.Nodup) {i j : Nat} (hi : i < l.length) (hj : j < l.length) (e : l[i] = l[j]) : i = j := by
  have h := List.pairwise_iff_getElem.mp nd
  rcases Nat.lt_trichotomy i j with q | q | q
  · exact absurd e (h i j hi hj q)
  · exact q
  · exact absurd e.symm (h j i hj hi q)
theorem nodup_len : ∀ {n : Nat} {os : List Nat}, os.Nodup → (∀ x ∈ os, x < n) → os.length ≤ n
  | 0, [], _, _ => Nat.le_refl _
  | 0, x :: os, _, h => absurd (h x List.mem_cons_self) (Nat.not_lt_zero _)
  | n + 1, os, nd, h => by
    have h1 := nodup_len (n := n) (os := os.filter fun x => !(x == n)) (nd.filter _) fun x hx => by
      obtain ⟨a, c⟩ := List.mem_filter.mp hx
      have := h x a
      have : x ≠ n := by simpa using c
      omega
    have h2 : os.length = (os.filter fun x => !(x == n)).length + os.count n := by
      rw [List.length_eq_countP_add_countP (fun x => !(x == n)) (l := os), List.countP_eq_length_filter]
      congr 1
      show _ = os.countP (· == n)
      congr 1
      funext x
      cases x == n <;> simp
    have h3 : os.count n ≤ 1 := List.nodup_iff_count.mp nd n
    omega
end VL
namespace VL
open PySem PySem.Spec PyProof.Rows L2 VL
theorem script_fz (ns : List Int) : isFz (scriptD ns) = true := by show (!false && isFzL (ns.map D.int)) = true; rw [isFzL_all]; simp [isFz]
theorem script_len {ns : List Int} {Q : D → Prop} : sLen [scriptD ns] Q ↔ Q (.int ns.length) := by unfold scriptD; rw [e_lenL, List.length_map]
def natsD (xs : List Nat) : List D := xs.map fun k : Nat => D.int (k : Int)
theorem natsD_fz (xs : List Nat) : isFzL (natsD xs) = true := by unfold natsD; rw [isFzL_all]; simp [isFz]
theorem natsD_frz (xs : List Nat) : frzL (natsD xs) = natsD xs := by
  rw [frzL_map]
  unfold natsD
  rw [List.map_map]
  rfl
theorem natsD_len (xs : List Nat) : (natsD xs).length = xs.length := by unfold natsD; rw [List.length_map]
theorem tyOk_L {m : Bool} {xs : List D} : tyOk "list" (.lst m xs) = true := rfl
theorem e_pop {ds : List D} {y : D} {P : List D → D → Prop} : (∃ ds' res, muPop (ds ++ [y]) [] = some (ds', res) ∧ P ds' res) ↔ P ds y := by
  have h : muPop (ds ++ [y]) [] = some (ds, y) := by
    show (((ds ++ [y])[(ds ++ [y]).length - 1]?).map fun z => ((ds ++ [y]).dropLast, z)) = _
    simp
  rw [h]
  exact ⟨fun ⟨_, _, e, p⟩ => by cases e; exact p, fun p => ⟨_, _, rfl, p⟩⟩
theorem names1 {i : Nat} {a : D} {ε : Ep} {Q : Ep → Prop} : vNames [i] (.tup [a]) ε Q ↔ i < ε.length ∧ Q (ε.set i (some a)) :=
  ⟨fun ⟨_, e, _, h, q⟩ => by cases e; exact ⟨h i (by simp), q⟩, fun ⟨h, q⟩ => ⟨_, rfl, rfl, fun j hj => by simp at hj; subst hj; exact h, q⟩⟩
theorem names2 {i j : Nat} {a b : D} {ε : Ep} {Q : Ep → Prop} : vNames [i, j] (.tup [a, b]) ε Q ↔ i < ε.length ∧ j < ε.length ∧ Q ((ε.set i (some a)).set j (some b)) :=
  ⟨fun ⟨_, e, _, h, q⟩ => by cases e; exact ⟨h i (by simp), h j (by simp), q⟩, fun ⟨h, h2, q⟩ => ⟨_, rfl, rfl, fun j hj => by simp at hj; rcases hj with rfl | rfl <;> assumption, q⟩⟩
theorem names3 {i j k : Nat} {a b c : D} {ε : Ep} {Q : Ep → Prop} : vNames [i, j, k] (.tup [a, b, c]) ε Q ↔ i < ε.length ∧ j < ε.length ∧ k < ε.length ∧ Q (((ε.set i (some a)).set j (some b)).set k (some c)) :=
  ⟨fun ⟨_, e, _, h, q⟩ => by cases e; exact ⟨h i (by simp), h j (by simp), h k (by simp), q⟩, fun ⟨h, h2, h3, q⟩ => ⟨_, rfl, rfl, fun j hj => by simp at hj; rcases hj with rfl | rfl | rfl <;> assumption, q⟩⟩
theorem cutL_take {α : Type} (xs : List α) (k : Nat) : cutL xs none (some (no_index (OfNat.ofNat k))) = xs.take k := by
  show (xs.drop 0).take (HT.sIx xs.length xs.length (some ((k : Nat) : Int)) - 0) = _
  rw [HT.sIx_nat, List.drop_zero, Nat.sub_zero]
  by_cases h : k ≤ xs.length
  · rw [Nat.min_eq_left h]
  · rw [Nat.min_eq_right (by omega), List.take_length, List.take_of_length_le (by omega)]
theorem cutL_drop {α : Type} (xs : List α) (k : Nat) : cutL xs (some (no_index (OfNat.ofNat k))) none = xs.drop k := by
  show (xs.drop (HT.sIx xs.length 0 (some ((k : Nat) : Int)))).take (xs.length - HT.sIx xs.length 0 (some ((k : Nat) : Int))) = _
  rw [HT.sIx_nat]
  by_cases h : k ≤ xs.length
  · rw [Nat.min_eq_left h, List.take_of_length_le (by simp)]
  · rw [Nat.min_eq_right (by omega), List.drop_length, List.drop_of_length_le (by omega)]
    simp
theorem frz_op (a : Opd) : frz (opD a) = opD a := by cases a <;> rfl
section
variable {own : List Nat} {g : VTG} {tt : VTT} {te te' : VTE} {d : D} {ds acc : List D} {ε : Ep} {Q : List D → Ep → Prop}
theorem e_lcU (h : te = te') : vLcL own g tt te (d :: ds) acc ε Q ↔ g d ε fun ε1 => tt noX ε1 fun c ε2 => if c = true then te' noX ε2 fun y ε3 => acc.length < 1000000 ∧ vLcL own g tt te ds (acc ++ [y]) (forgetE own ε3) Q else vLcL own g tt te ds acc (forgetE own ε2) Q := by subst h; exact Iff.rfl
theorem rng0 (n : Nat) : rng 0 n = (List.range n).map fun k : Nat => D.int (k : Int) := by
  unfold rng
  exact List.map_congr_left fun k _ => by rw [Int.zero_add]
theorem rngN (n : Nat) : rng 0 n = natsD (List.range n) := rng0 n
end
end VL
namespace VL
open PySem PySem.Spec PyProof.Rows L2 VL
def rowsD (n : Nat) (r : Nat → List Nat) : List D := (List.range n).map fun t => .lst true (natsD (r t))
def rowsF (n : Nat) (r : Nat → List Nat) : List D := (List.range n).map fun t => .lst false (natsD (r t))
section
variable {n t k : Nat} {r : Nat → List Nat}
theorem rowsD_len : (rowsD n r).length = n := by simp [rowsD]
theorem rowsF_len : (rowsF n r).length = n := by simp [rowsF]
theorem frz_rows : frzL (rowsD n r) = rowsF n r := by
  rw [frzL_map]
  unfold rowsD rowsF
  rw [List.map_map]
  exact List.map_congr_left fun t _ => by show D.lst false (frzL (natsD (r t))) = _; rw [natsD_frz]
theorem rowsF_fz : isFzL (rowsF n r) = true := by rw [isFzL_all]; simp [rowsF, isFz, natsD_fz]
end
theorem seqD_l {m : Bool} {xs : List D} : VL.seqD (.lst m xs) = some xs := rfl
theorem seqD_t {xs : List D} : VL.seqD (.tup xs) = some xs := rfl
theorem listD_l {m : Bool} {xs : List D} : listD (.lst m xs) = some xs := rfl
theorem listD_t {xs : List D} : listD (.tup xs) = some xs := rfl
theorem deq_ll {m n : Bool} {xs ys : List D} : deq (.lst m xs) (.lst n ys) = deqL xs ys := rfl
theorem frz_rowsF {n : Nat} {r : Nat → List Nat} : frzL (rowsF n r) = rowsF n r := frzL_id rowsF_fz
theorem frzL_len {xs : List D} : (frzL xs).length = xs.length := by rw [frzL_map, List.length_map]
theorem ite_no {c : Prop} {i : Decidable c} {a b : Prop} (h : ¬c) (q : b) : @ite Prop c i a b := by rw [if_neg h]; exact q
theorem ite_yes {c : Prop} {i : Decidable c} {a b : Prop} (h : c) (q : a) : @ite Prop c i a b := by rw [if_pos h]; exact q
theorem nats_ok (m : Bool) (xs : List Nat) : okD 64 (.lst m (natsD xs)) = true := by
  show okDL 63 (natsD xs) = true
  rw [okDL_all]
  unfold natsD
  rw [List.all_map]
  exact List.all_eq_true.mpr fun x _ => rfl
theorem eqOk_nn {m n : Bool} {xs ys : List Nat} : eqOk (.lst m (natsD xs)) (.lst n (natsD ys)) ↔ True := ⟨fun _ => trivial, fun _ => .inr ⟨nats_ok m xs, nats_ok n ys⟩⟩
theorem eqOk_n0 {m n : Bool} {xs : List Nat} : eqOk (.lst m (natsD xs)) (.lst n []) ↔ True := ⟨fun _ => trivial, fun _ => .inr ⟨nats_ok m xs, rfl⟩⟩
theorem deqL_n0 {xs : List Nat} : deqL (natsD xs) [] = xs.isEmpty := by cases xs <;> rfl
theorem deqL_nn : ∀ {xs ys : List Nat}, deqL (natsD xs) (natsD ys) = decide (xs = ys)
  | [], [] => rfl
  | [], y :: ys => rfl
  | x :: xs, [] => rfl
  | x :: xs, y :: ys => by
    show (deq (.int (x : Int)) (.int (y : Int)) && deqL (natsD xs) (natsD ys)) = _
    rw [deq_i, deqL_nn, Bool.eq_iff_iff, Bool.and_eq_true, decide_eq_true_iff, decide_eq_true_iff, decide_eq_true_iff, List.cons.injEq]
    constructor
    · rintro ⟨h1, h2⟩; exact ⟨by omega, h2⟩
    · rintro ⟨rfl, rfl⟩; exact ⟨rfl, rfl⟩
end VL
namespace VL
open PySem PySem.Spec PyProof.Rows L2 VL
abbrev cJump : Cs := [106, 117, 109, 112]
/-- a row's mark: the node whose deed it is, or the node to which it jumps -/
abbrev Mk := Nat × Bool
end VL
namespace VL
open PySem PySem.Spec PyProof.Rows L2 VL
inductive Rch (f : Nat → List Nat) (o : Nat) : Nat → Prop
  | zero : o ≠ 0 → Rch f o 0
  | step {k t : Nat} : Rch f o k → t ∈ f k → t ≠ o → Rch f o t
structure Gf (f : Nat → List Nat) (n : Nat) : Prop where
  pos : 0 < n
  clo : ∀ k < n, ∀ t ∈ f k, t < n
  par : ∀ k, 0 < k → k < n → ∃ p, p < k ∧ k ∈ f p
section
variable {f : Nat → List Nat} {n : Nat}
theorem Rch.ne {o k : Nat} (h : Rch f o k) : k ≠ o := by
  cases h with
  | zero h => exact fun e => h e.symm
  | step _ _ h => exact h
theorem Rch.lt (G : Gf f n) {o k : Nat} (h : Rch f o k) : k < n := by
  induction h with
  | zero _ => exact G.pos
  | step _ ht _ ih => exact G.clo _ ih _ ht
theorem Rch.no0 {k : Nat} : ¬Rch f 0 k := fun h => by
  induction h with
  | zero h => exact h rfl
  | step _ _ _ ih => exact ih
theorem rch_below (G : Gf f n) {o : Nat} : ∀ k, k < n → k < o → Rch f o k := by
  intro k
  induction k using Nat.strongRecOn with
  | ind k ih =>
    intro hk ho
    by_cases h0 : k = 0
    · subst h0; exact .zero (by omega)
    · obtain ⟨p, hp, hm⟩ := G.par k (by omega) hk
      exact .step (ih p hp (by omega) (by omega)) hm (by omega)
/-- o stands on each way to k -/
def Dm (f : Nat → List Nat) (o k : Nat) : Prop := ¬Rch f o k
theorem Dm.self (k : Nat) : Dm f k k := fun h => h.ne rfl
theorem Dm.zero (k : Nat) : Dm f 0 k := Rch.no0
theorem Dm.le (G : Gf f n) {o k : Nat} (hk : k < n) (h : Dm f o k) : o ≤ k := by
  by_cases e : k < o
  · exact absurd (rch_below G k hk e) h
  · omega
theorem Dm.trans {a b k : Nat} (h1 : Dm f a b) (h2 : Dm f b k) : Dm f a k := fun h => by
  have : ∀ k, Rch f a k → Rch f b k ∨ Rch f a b := fun k h => by
    induction h with
    | zero h =>
      by_cases e : b = 0
      · subst e; exact .inr (.zero h)
      · exact .inl (.zero e)
    | @step k t hk ht hne ih =>
      rcases ih with ih | ih
      · by_cases e : t = b
        · subst e; exact .inr (.step hk ht hne)
        · exact .inl (.step ih ht e)
      · exact .inr ih
  rcases this k h with h | h
  · exact h2 h
  · exact h1 h
/-- the last of those that stand on each way to k, k apart -/
structure IsId (f : Nat → List Nat) (k z : Nat) : Prop where
  dm : Dm f z k
  lt : z < k
  last : ∀ o, Dm f o k → o ≠ k → o ≤ z
theorem IsId.uniq {k y z : Nat} (h1 : IsId f k y) (h2 : IsId f k z) : y = z := by
  have a := h1.last z h2.dm (by have := h2.lt; omega)
  have b := h2.last y h1.dm (by have := h1.lt; omega)
  omega
structure IsTree (f : Nat → List Nat) (n : Nat) (ts : List (Option Nat)) : Prop where
  len : ts.length = n
  zero : ts[0]? = some none
  id : ∀ k, 0 < k → k < n → ∃ z, ts[k]? = some (some z) ∧ IsId f k z
theorem IsTree.uniq {ts us : List (Option Nat)} (h1 : IsTree f n ts) (h2 : IsTree f n us) : ts = us := by
  apply List.ext_getElem?
  intro i
  by_cases hi : i < n
  · by_cases h0 : i = 0
    · subst h0; rw [h1.zero, h2.zero]
    · obtain ⟨y, e1, i1⟩ := h1.id i (by omega) hi
      obtain ⟨z, e2, i2⟩ := h2.id i (by omega) hi
      rw [e1, e2, i1.uniq i2]
  · rw [List.getElem?_eq_none (by rw [h1.len]; omega), List.getElem?_eq_none (by rw [h2.len]; omega)]
/-- up a tree -/
inductive Abv (ts : List (Option Nat)) (o : Nat) : Nat → Prop
  | self : Abv ts o o
  | up {k j : Nat} : ts[k]? = some (some j) → Abv ts o j → Abv ts o k
end
/-- each one's upper is smaller -/
def TLt (ts : List (Option Nat)) : Prop := ∀ k j : Nat, ts[k]? = some (some j) → j < k
end VL
namespace VL
open PySem PySem.Spec PyProof.Rows L2 VL
def SetK (ts : List (Option Nat)) (k : Nat) : Prop := k = 0 ∨ ∃ j, ts[k]? = some (some j)
/-- a way from j to k, on nodes from j on -/
inductive Pth (f : Nat → List Nat) (j : Nat) : Nat → Prop
  | refl : Pth f j j
  | step {a b : Nat} : Pth f j a → b ∈ f a → j ≤ b → Pth f j b
theorem Pth.le {f : Nat → List Nat} {j k : Nat} (h : Pth f j k) : j ≤ k := by
  cases h with
  | refl => exact Nat.le_refl _
  | step _ _ h => exact h
theorem Pth.trans {f : Nat → List Nat} {i j k : Nat} (h1 : Pth f i j) (h2 : Pth f j k) : Pth f i k := by
  induction h2 with
  | refl => exact h1
  | step _ hb hj ih => exact .step ih hb (Nat.le_trans h1.le hj)
theorem Pth.rch {f : Nat → List Nat} {o j k : Nat} (h : Pth f j k) (ho : o < j) (r : Rch f o j) : Rch f o k := by
  induction h with
  | refl => exact r
  | step _ hb hj ih => exact .step ih hb (by omega)
/-- a way from 0 to k without o, with fewer than r steps that do not lead on -/
inductive Rn (f : Nat → List Nat) (o : Nat) : Nat → Nat → Prop
  | zero {r : Nat} : o ≠ 0 → Rn f o (r + 1) 0
  | fwd {r p t : Nat} : Rn f o r p → t ∈ f p → t ≠ o → p < t → Rn f o r t
  | back {r p t : Nat} : Rn f o r p → t ∈ f p → t ≠ o → Rn f o (r + 1) t
section
variable {f : Nat → List Nat} {n : Nat}
theorem Rn.no {o k : Nat} : ¬Rn f o 0 k := fun h => by
  generalize e : 0 = r at h
  induction h with
  | zero _ => cases e
  | fwd _ _ _ _ ih => exact ih e
  | back _ _ _ _ => cases e
theorem Rn.up {o k r : Nat} (h : Rn f o r k) : Rn f o (r + 1) k := by
  induction h with
  | zero h => exact .zero h
  | fwd _ a b c ih => exact .fwd ih a b c
  | back _ a b ih => exact .back ih a b
theorem Rn.le {o k r s : Nat} (h : Rn f o r k) (hs : r ≤ s) : Rn f o s k := by
  induction hs with
  | refl => exact h
  | step _ ih => exact ih.up
theorem Rn.rch {o k r : Nat} (h : Rn f o r k) : Rch f o k := by
  induction h with
  | zero h => exact .zero h
  | fwd _ a b _ ih => exact .step ih a b
  | back _ a b ih => exact .step ih a b
theorem Rn.ne {o k r : Nat} (h : Rn f o r k) : k ≠ o := h.rch.ne
theorem Abv.trans {ts : List (Option Nat)} {a b c : Nat} (h1 : Abv ts a b) (h2 : Abv ts b c) : Abv ts a c := by
  induction h2 with
  | self => exact h1
  | up e _ ih => exact .up e ih
theorem Abv.le {ts : List (Option Nat)} (T : TLt ts) {o k : Nat} (h : Abv ts o k) : o ≤ k := by
  induction h with
  | self => exact Nat.le_refl _
  | up e _ ih => have := T _ _ e; omega
section
variable {ts : List (Option Nat)} {k m : Nat}
theorem get_set {x y : Nat} (e : x ≠ k) (h : ts[x]? = some (some y)) : (ts.set k (some m))[x]? = some (some y) := by
  rw [List.getElem?_set_ne (fun z => e z.symm)]
  exact h
theorem SetK.set {x : Nat} (h : SetK ts x) : SetK (ts.set k (some m)) x := by
  rcases h with h | ⟨j, h⟩
  · exact .inl h
  · by_cases e : x = k
    · subst e
      exact .inr ⟨m, by rw [List.getElem?_set_self (List.getElem?_eq_some_iff.mp h).1]⟩
    · exact .inr ⟨j, get_set e h⟩
end
end
theorem SetK.iff {ts : List (Option Nat)} {k : Nat} {x : Option Nat} (h : ts[k]? = some x) : SetK ts k ↔ k = 0 ∨ x ≠ none := by
  unfold SetK
  rw [h]
  constructor
  · rintro (a | ⟨j, a⟩)
    · exact .inl a
    · cases a; exact .inr (fun z => nomatch z)
  · rintro (a | a)
    · exact .inl a
    · cases x with
      | none => exact absurd rfl a
      | some j => exact .inr ⟨j, rfl⟩
end VL
namespace VL
open PySem PySem.Spec PyProof.Rows L2 VL
section
variable {X : Cv}
/-- {name: constant} -/
def vDisp1 (i : Nat) (c : D) : VTE := fun _ ε Q => ∃ z : Int, ε[i]? = some (some (.int z)) ∧ Q (.dK true [.inl z] [c]) ε
end
end VL
namespace VL
open PySem PySem.Spec PyProof.Rows L2 VL
def natK (ks : List Nat) : List Kc := ks.map fun k : Nat => Sum.inl (k : Int)
/-- names of nodes, each with the one that it was come to from -/
abbrev Came := List (Nat × Option Nat)
def Came.keys (ps : Came) : List Nat := ps.map (·.1)
theorem keys_len (ps : Came) : ps.keys.length = ps.length := by simp [Came.keys]
inductive Trl (ps : Came) : Nat → List Nat → Prop
  | root {k : Nat} : (k, none) ∈ ps → Trl ps k [k]
  | up {k p : Nat} {l : List Nat} : (k, some p) ∈ ps → Trl ps p l → Trl ps k (l ++ [k])
/-- reached from st on nodes outside bs -/
inductive RchB (f : Nat → List Nat) (bs : List Nat) (st : Nat) : Nat → Prop
  | start : st ∉ bs → RchB f bs st st
  | step {k t : Nat} : RchB f bs st k → t ∈ f k → t ∉ bs → RchB f bs st t
/-- a way: its first, its last, steps, none twice -/
structure WayOk (f : Nat → List Nat) (bs : List Nat) (st k : Nat) (l : List Nat) : Prop where
  hd : l.head? = some st
  lst : l.getLast? = some k
  nd : l.Nodup
  stp : ∀ (i a b : Nat), l[i]? = some a → l[i + 1]? = some b → b ∈ f a
  out : ∀ x ∈ l, x ∉ bs
structure BfI (f : Nat → List Nat) (n : Nat) (st : Nat) (ws bs : List Nat) (ps : Came) (at_ : Nat) : Prop where
  nd : ps.keys.Nodup
  rng : ∀ k ∈ ps.keys, k < n
  root : ps.head? = some (st, none)
  par : ∀ (i k p : Nat), ps[i]? = some (k, some p) → ∃ j x, j < i ∧ ps[j]? = some (p, x) ∧ k ∈ f p
  one : ∀ (i k : Nat), ps[i]? = some (k, none) → i = 0
  out : ∀ k ∈ ps.keys, k ∉ bs
  le : at_ ≤ ps.length
  nw : ∀ (i k : Nat) x, i < at_ → ps[i]? = some (k, x) → k ∉ ws
  dn : ∀ (i k : Nat) x, i < at_ → ps[i]? = some (k, x) → ∀ t ∈ f k, t ∉ bs → t ∈ ps.keys
section
variable {f : Nat → List Nat} {n st : Nat} {ws bs : List Nat} {ps : Came} {at_ : Nat}
/-- each has its way, on those that came ahead of it -/
theorem BfI.trail (I : BfI f n st ws bs ps at_) : ∀ (i k : Nat) x, ps[i]? = some (k, x) → ∃ l, Trl ps k l ∧ WayOk f bs st k l ∧ (∀ y ∈ l, ∃ j z, j ≤ i ∧ ps[j]? = some (y, z)) ∧ l.length ≤ i + 1 := by
  intro i
  induction i using Nat.strongRecOn with
  | ind i ih =>
    intro k x h
    have hm : (k, x) ∈ ps := List.mem_of_getElem? h
    cases x with
    | none =>
      have := I.one i k h
      subst this
      have hr := I.root
      rw [List.head?_eq_getElem?, h] at hr
      have hr : k = st := by cases hr; rfl
      subst hr
      refine ⟨[k], .root hm, ⟨rfl, rfl, by simp, fun i a b _ h2 => by simp at h2, fun y hy => ?_⟩, fun y hy => ?_, by simp⟩
      · simp at hy; subst hy; exact I.out y (List.mem_map.mpr ⟨_, hm, rfl⟩)
      · simp at hy; subst hy; exact ⟨0, none, Nat.le_refl _, h⟩
    | some p =>
      obtain ⟨j, y, hj, hp, hk⟩ := I.par i k p h
      obtain ⟨l, t, w, on, ln⟩ := ih j hj p y hp
      have hkl : k ∉ l := fun z => by
        obtain ⟨j2, z2, h1, h2⟩ := on k z
        have hlt : i < ps.length := (List.getElem?_eq_some_iff.mp h).1
        have e : ps.keys[j2]'(by rw [keys_len]; omega) = ps.keys[i]'(by rw [keys_len]; omega) := by
          have a1 : ps.keys[j2]? = some k := by unfold Came.keys; rw [List.getElem?_map, h2]; rfl
          have a2 : ps.keys[i]? = some k := by unfold Came.keys; rw [List.getElem?_map, h]; rfl
          have a3 := (List.getElem?_eq_some_iff.mp a1).2
          have a4 := (List.getElem?_eq_some_iff.mp a2).2
          rw [a3, a4]
        have := nodup_get I.nd _ _ e
        omega
      refine ⟨l ++ [k], .up hm t, ⟨?_, by simp, List.nodup_append.mpr ⟨w.nd, by simp, fun a ha c hc e => by simp at hc; exact hkl (by rw [← hc, ← e]; exact ha)⟩, ?_, fun y hy => ?_⟩, fun y hy => ?_, by simp; omega⟩
      · cases l with
        | nil => cases w.hd
        | cons a l => exact w.hd
      · intro i2 a b h1 h2
        by_cases e : i2 + 1 < l.length
        · rw [List.getElem?_append_left (by omega)] at h1
          rw [List.getElem?_append_left e] at h2
          exact w.stp i2 a b h1 h2
        · have e2 : i2 + 1 = l.length := by
            have := (List.getElem?_eq_some_iff.mp h2).1
            simp at this
            omega
          rw [List.getElem?_append_left (by omega)] at h1
          rw [List.getElem?_append_right (by omega), e2, Nat.sub_self] at h2
          cases h2
          have hl := w.lst
          rw [List.getLast?_eq_getElem?, show l.length - 1 = i2 by omega, h1] at hl
          cases hl
          exact hk
      · rcases List.mem_append.mp hy with hy | hy
        · exact w.out y hy
        · simp at hy; subst hy; exact I.out y (List.mem_map.mpr ⟨_, hm, rfl⟩)
      · rcases List.mem_append.mp hy with hy | hy
        · obtain ⟨j2, z, h1, h2⟩ := on y hy
          exact ⟨j2, z, by omega, h2⟩
        · simp at hy; subst hy; exact ⟨i, _, Nat.le_refl _, h⟩
theorem BfI.fin (I : BfI f n st ws bs ps ps.length) {k : Nat} (h : RchB f bs st k) : k ∈ ps.keys ∧ k ∉ ws := by
  have mem : k ∈ ps.keys := by
    induction h with
    | start _ =>
      cases e : ps with
      | nil => have := I.root; rw [e] at this; cases this
      | cons p ps' => have := I.root; rw [e] at this; cases this; simp [Came.keys]
    | @step k t _ ht hb ih =>
      obtain ⟨p, hp, rfl⟩ := List.mem_map.mp ih
      obtain ⟨i, hi, e⟩ := List.mem_iff_getElem.mp hp
      exact I.dn i p.1 p.2 hi (by rw [List.getElem?_eq_getElem hi, e]) t ht hb
  refine ⟨mem, ?_⟩
  obtain ⟨p, hp, rfl⟩ := List.mem_map.mp mem
  obtain ⟨i, hi, e⟩ := List.mem_iff_getElem.mp hp
  exact I.nw i p.1 p.2 hi (by rw [List.getElem?_eq_getElem hi, e])
/-- what comes of the ways on of a node -/
def bf1 (bs : List Nat) (h : Nat) (ps : Came) (t : Nat) : Came := if t ∉ ps.keys ∧ t ∉ bs then ps ++ [(t, some h)] else ps
theorem keys_app {ps : Came} {k : Nat} {x : Option Nat} : Came.keys (ps ++ [(k, x)]) = ps.keys ++ [k] := by simp [Came.keys]
structure BfM (f : Nat → List Nat) (n : Nat) (st : Nat) (ws bs : List Nat) (ps0 ps : Came) (at_ : Nat) (h : Nat) (seen : List Nat) : Prop where
  I : BfI f n st ws bs ps at_
  pre : ∃ e, ps = ps0 ++ e
  hs : ∃ x, ps[at_]? = some (h, x)
  ok : ∀ t ∈ seen, t ∉ bs → t ∈ ps.keys
theorem BfM.step {h : Nat} {ps0 : Came} {seen : List Nat} (M : BfM f n st ws bs ps0 ps at_ h seen) {t : Nat} (ht : t ∈ f h) (hn : t < n) : BfM f n st ws bs ps0 (bf1 bs h ps t) at_ h (seen ++ [t]) := by
  unfold bf1
  split
  · rename_i hc
    obtain ⟨c1, c2⟩ := hc
    obtain ⟨x0, hx0⟩ := M.hs
    have hl := (List.getElem?_eq_some_iff.mp hx0).1
    have old : ∀ {i : Nat} {p : Nat × Option Nat}, ps[i]? = some p → (ps ++ [(t, some h)])[i]? = some p := fun {i p} e => by
      rw [List.getElem?_append_left (List.getElem?_eq_some_iff.mp e).1]; exact e
    have new : ∀ {i : Nat} {p : Nat × Option Nat}, (ps ++ [(t, some h)])[i]? = some p → ps[i]? = some p ∨ (i = ps.length ∧ p = (t, some h)) := fun {i p} e => by
      by_cases z : i < ps.length
      · rw [List.getElem?_append_left z] at e; exact .inl e
      · rw [List.getElem?_append_right (by omega)] at e
        have : i - ps.length = 0 := by
          have := (List.getElem?_eq_some_iff.mp e).1
          simp at this
          omega
        rw [this] at e
        cases e
        exact .inr ⟨by omega, rfl⟩
    refine ⟨⟨?_, fun k hk => ?_, ?_, fun i k p e => ?_, fun i k e => ?_, fun k hk => ?_, by simp; have := M.I.le; omega, fun i k x hi e => ?_, fun i k x hi e y hy hb => ?_⟩, ?_, ⟨x0, old hx0⟩, fun y hy hb => ?_⟩
    · rw [keys_app]
      exact List.nodup_append.mpr ⟨M.I.nd, by simp, fun a ha c hc e => by simp at hc; exact c1 (by rw [← hc, ← e]; exact ha)⟩
    · rw [keys_app] at hk
      rcases List.mem_append.mp hk with hk | hk
      · exact M.I.rng k hk
      · simp at hk; subst hk; exact hn
    · have := M.I.root
      cases ps with
      | nil => cases this
      | cons p ps => exact this
    · rcases new e with e | ⟨_, e'⟩
      · obtain ⟨j, x, h1, h2, h3⟩ := M.I.par i k p e
        exact ⟨j, x, h1, old h2, h3⟩
      · cases e'
        exact ⟨at_, x0, by omega, old hx0, ht⟩
    · rcases new e with e | ⟨_, e'⟩
      · exact M.I.one i k e
      · cases e'
    · rw [keys_app] at hk
      rcases List.mem_append.mp hk with hk | hk
      · exact M.I.out k hk
      · simp at hk; subst hk; exact c2
    · rcases new e with e | ⟨rfl, _⟩
      · exact M.I.nw i k x hi e
      · omega
    · rw [keys_app]
      rcases new e with e | ⟨rfl, _⟩
      · exact List.mem_append_left _ (M.I.dn i k x hi e y hy hb)
      · omega
    · obtain ⟨e, he⟩ := M.pre
      exact ⟨e ++ [(t, some h)], by rw [he, List.append_assoc]⟩
    · rw [keys_app]
      rcases List.mem_append.mp hy with hy | hy
      · exact List.mem_append_left _ (M.ok y hy hb)
      · simp at hy; subst hy; simp
  · rename_i hc
    refine ⟨M.I, M.pre, M.hs, fun y hy hb => ?_⟩
    rcases List.mem_append.mp hy with hy | hy
    · exact M.ok y hy hb
    · simp at hy; subst hy
      exact Classical.byContradiction fun z => hc ⟨z, hb⟩
theorem BfM.next {h : Nat} {ps0 : Came} {seen : List Nat} (M : BfM f n st ws bs ps0 ps at_ h seen) (hw : h ∉ ws) (all : ∀ t ∈ f h, t ∈ seen) : BfI f n st ws bs ps (at_ + 1) := by
  obtain ⟨x0, hx0⟩ := M.hs
  have hl := (List.getElem?_eq_some_iff.mp hx0).1
  refine ⟨M.I.nd, M.I.rng, M.I.root, M.I.par, M.I.one, M.I.out, hl, fun i k x hi e => ?_, fun i k x hi e t ht hb => ?_⟩
  · by_cases z : i = at_
    · subst z; rw [hx0] at e; cases e; exact hw
    · exact M.I.nw i k x (by omega) e
  · by_cases z : i = at_
    · subst z; rw [hx0] at e; cases e; exact M.ok t (all t ht) hb
    · exact M.I.dn i k x (by omega) e t ht hb
end
theorem WayOk.rch {f : Nat → List Nat} {bs : List Nat} {st k : Nat} {l : List Nat} (w : WayOk f bs st k l) : RchB f bs st k := by
  have key : ∀ (i x : Nat), l[i]? = some x → RchB f bs st x := by
    intro i
    induction i with
    | zero =>
      intro x h
      have e := w.hd
      rw [List.head?_eq_getElem?, h] at e
      have e : x = st := Option.some.inj e
      subst e
      exact .start (w.out x (List.mem_of_getElem? h))
    | succ i ih =>
      intro x h
      have hi : i < l.length := by have := (List.getElem?_eq_some_iff.mp h).1; omega
      exact .step (ih _ (List.getElem?_eq_getElem hi)) (w.stp i _ x (List.getElem?_eq_getElem hi) h) (w.out x (List.mem_of_getElem? h))
  have hl := w.lst
  rw [List.getLast?_eq_getElem?] at hl
  exact key _ k hl
end VL
namespace VL
open PySem PySem.Spec PyProof.Rows L2 VL
abbrev nsO (w : World) : Obj := { cls := .type "set", dict := none, data := .set #[] 0 (.fresh 0 0 (!w.params.followText "set-order")) }
section
variable {P : Program} {w : World} {A : Around} {E : Value → Shared → Prop} {s : Shared}
theorem set_fed {l S : Addr} {items : Array Value} (ns : List Int) {R : Result → Shared → Prop} (hh : A.handled = none) (lst : s.heap.IsList l items) (allI : IntsAre items.toList ns) (hb : ns.length + 1 < scanBound) (hS : s.heap.get? S = some (nsO w)) (hSl : S ≠ l)
    (k : ∀ (h' : Heap) (tk c : Nat), SetR w h' S (fun j => decide (j ∈ ns)) c → c ≤ ns.length → (∀ b o, b ≠ S → s.heap.get? b = some o → h'.get? b = some o) → R (.ok (.ret .none)) { s with heap := h', toks := tk }) :
    codeAny (model P w) A (.builtin "set.update.loop" ⟨[.ref S, .ref s.heap.objs.size], []⟩) R { s with heap := s.heap.push { cls := .type "list_iterator", data := .fields #[.ref l, .int 0 0] } } := by
  obtain ⟨ol, hol, _⟩ := id lst
  have lt := Heap.lt_size hol
  have ltS := Heap.lt_size hS
  have sz : items.size = ns.length := by
    have q := IntsAre.length allI
    rw [Array.length_toList] at q
    exact q
  have at_ : ∀ (i : Nat) (v : Value), items[i]? = some v → ∃ k t, ns[i]? = some k ∧ v = .int k t := fun i v hv => by
    have hi : i < ns.length := by rw [← sz]; exact (Array.getElem?_eq_some_iff.mp hv).1
    obtain ⟨t, e⟩ := PyProof.Rows.IntsAre.int_at allI i v (by rw [Array.getElem?_toList]; exact hv)
    exact ⟨ns[i], t, List.getElem?_eq_getElem hi, by rw [e, List.getD_eq_getElem?_getD, List.getElem?_eq_getElem hi]; rfl⟩
  have up : ∀ b o, s.heap.get? b = some o → (s.heap.push { cls := .type "list_iterator", data := .fields #[.ref l, .int 0 0] }).get? b = some o := fun b o e => Heap.get?_push_of_some _ e
  refine set_update_ints ((Walks.list (A := A.in1) (by simpa using hh) s.heap.objs.size l (Nat.ne_of_lt lt) items).toS) S (by simp only [List.mem_cons, List.not_mem_nil, or_false, not_or]; exact ⟨Nat.ne_of_lt ltS, hSl⟩) ns sz hb at_ items.size 0 _ (by omega) (Nat.zero_le _)
    ⟨⟨_, Heap.get?_push_size _ rfl, rfl, rfl⟩, lst.push _⟩ ⟨0, Nat.le_refl 0, setR_new_at (up S _ hS)⟩ fun s' c m hc hR => ?_
  rw [Moved.eq_with m]
  refine k s'.heap s'.toks c hR (by omega) fun b o hb e => m.heap b o (fun hm => ?_) (up b o e)
  rcases List.mem_cons.mp hm with z | z
  · exact hb z
  · have z : b = s.heap.objs.size := List.mem_singleton.mp z
    have := Heap.lt_size e
    rw [z] at this
    exact absurd this (Nat.lt_irrefl _)
theorem set_list {l : Addr} {items : Array Value} (ns : List Int) {Q : Value → Shared → Prop} (hh : A.handled = none) (lst : s.heap.IsList l items) (allI : IntsAre items.toList ns) (hb : ns.length + 1 < scanBound)
    (k : ∀ (h' : Heap) (tk c : Nat), SetR w h' s.heap.objs.size (fun j => decide (j ∈ ns)) c → c ≤ ns.length → (∀ b o, s.heap.get? b = some o → h'.get? b = some o) → Q (.ref s.heap.objs.size) { s with heap := h', toks := tk }) :
    wpAny (model P w) A (call (.type "set") [.ref l]) Q E s := by
  obtain ⟨mc, mtl, hmro⟩ := F.called_set.mro
  have hmade := F.called_set.made
  have hsub := F.called_set.sub
  refine wpAny_call (codeAny_of_tree ?_)
  show wpAny _ _ (callAny (.type "set") _) _ _ _
  refine wpAny_pure ⟨Code.quiet_builtin _ (by decide +kernel), codeAny_builtin F.entry_type_call ?_⟩
  rw [Around.under_plain (weight_type_call_type "set" [.ref l] []) rfl]
  have n1 := F.called_set.notType
  have n2 := F.called_set.canCreate
  have n3 := F.typeCall_set_1 (.ref l)
  repeat (any_goals (first | assumption | wp_step))
  refine codeAny_mono (code_set_led1 (.ref l) (E := E) (Q₁ := fun obj s₁ => obj = .ref s.heap.objs.size ∧ s₁ = { s with heap := s.heap.push (nsO w) }) ⟨rfl, rfl⟩) fun r s₁ hr => ?_
  cases r with
  | error e => exact hr
  | ok fl =>
    cases fl with
    | ret obj =>
      obtain ⟨rfl, rfl⟩ := hr
      have hS : (s.heap.push (nsO w)).get? s.heap.objs.size = some (nsO w) := Heap.get?_push_size _ rfl
      have tS : Shared.TypeIs { s with heap := s.heap.push (nsO w) } (.ref s.heap.objs.size) "set" := ⟨_, hS, rfl⟩
      have n4 := F.called_set.init.lookup
      have n5 := F.called_set.init.bind (.ref s.heap.objs.size)
      repeat (any_goals (first | assumption | wp_step))
      refine codeAny_mono (codeAny_call_builtin (R := wants (fun r s₂ => r = .none ∧ ∃ h' tk c, s₂ = { s with heap := h', toks := tk } ∧ SetR w h' s.heap.objs.size (fun j => decide (j ∈ ns)) c ∧ c ≤ ns.length ∧ (∀ b o, s.heap.get? b = some o → h'.get? b = some o)) E) F.called_set.init.plain F.entry_set_init (check_set_init_1 tS ?_)) fun r₂ s₂ hr₂ => ?_
      · obtain ⟨ol, hol, hcl, nl, hdl⟩ := id lst
        have lt := Heap.lt_size hol
        obtain ⟨o1, o2, o3, o4⟩ := ol
        simp only at hcl hdl
        subst hcl hdl
        have hol2 : (s.heap.push (nsO w)).get? l = some { cls := .type "list", dict := o2, data := .seq items nl, slots := o4 } := Heap.get?_push_of_some _ hol
        have n6 := F.sub_list_set
        have n7 := F.sub_list_frozenset
        have n8 : (Value.type "list" == Value.type "dict") = false := by decide
        have lst2 : (s.heap.push (nsO w)).IsList l items := ⟨_, hol2, rfl, nl, rfl⟩
        unfold Builtin.«set.__init__» noKeywords Builtin.Frozenset.updateFrom
        generalize hpi : pyIter = piF
        wp_walk
        subst hpi
        refine wpAny_pyIter_list lst2 (wpAny_bind (wpAny_runValue ?_))
        refine set_fed (s := { s with heap := s.heap.push (nsO w) }) ns (by simp [hh]) lst2 allI hb hS (Nat.ne_of_gt lt) fun h' tk c hR hc keep => ?_
        show wpAny _ _ _ _ _ _
        refine wpAny_pure ?_
        show wpAny _ _ (ret Value.none) _ _ _
        exact wpAny_pure ⟨rfl, h', tk, c, rfl, hR, hc, fun b o e => keep b o (fun z => absurd (Heap.lt_size e) (by rw [z]; exact Nat.lt_irrefl _)) (Heap.get?_push_of_some _ e)⟩
      · cases r₂ with
        | error e => exact hr₂
        | ok fl₂ =>
          cases fl₂ with
          | ret r =>
            obtain ⟨rfl, h', tk, c, rfl, hR, hc, hk⟩ := hr₂
            repeat (any_goals (first | assumption | wp_step))
            exact k _ _ _ hR hc hk
          | _ => exact hr₂.elim
    | _ => exact hr.elim
end
end VL
namespace VL
open PySem PySem.Spec PyProof.Rows L2 VL
end VL
namespace VL
open PySem PySem.Spec PyProof.Rows L2 VL
/-- handed arg a, with pre a, it answers r, the arguments being l then, where rel a r l -/
def Rsp {α : Type} (arg : α → List D) (pre : α → Prop) (rel : α → D → List D → Prop) : VSp := fun ds Q _ => ∃ a, ds = arg a ∧ pre a ∧ ∀ r l, rel a r l → Q r l
theorem Rsp.mono {α : Type} {arg : α → List D} {pre : α → Prop} {rel : α → D → List D → Prop} : Mono (Rsp arg pre rel) := fun _ _ _ _ _ h _ ⟨a, e, p, q⟩ => ⟨a, e, p, fun r l z => h _ _ (q r l z)⟩
end VL
namespace VL
open PySem PySem.Spec PyProof.Rows L2 VL
section
variable {X : Cv}
theorem SI.pin {K : PySem.W.Frag} {b : Bs} {σ : L2.St} {H : Hp} {ε : Ep} {T : List D} {Tv : List V} {d : D} {v : V} (I : SI K b σ H ε (T ++ [d]) (Tv ++ [v])) (hl : T.length = Tv.length) : SI K b σ H ε (T ++ [.pin v d]) (Tv ++ [v]) := by
  obtain ⟨G, F, Ft, J⟩ := I
  obtain ⟨F1, F2, rfl, r1, r2⟩ := J.temps.split2 hl
  have r2 := RpL.one.mp r2
  have r3 : Rp K G H (.pin v d) v F2 := ⟨rfl, r2⟩
  exact ⟨G, F, F1 ++ F2, J.s0, J.sub, J.slots, r1.append (RpL.one.mpr r3), J.nd, J.fr, J.own, J.gn, J.keep, J.kept⟩
end
end VL
namespace VL
open PySem PySem.Spec PyProof.Rows L2 VL
section
variable {X : Cv}
abbrev VTD := WV → Ep → (List (D × D) → Ep → Prop) → Prop
def unz : List (D × D) → List D
  | [] => []
  | (k, y) :: r => k :: y :: unz r
def unzV : List (V × V) → List V
  | [] => []
  | (k, y) :: r => k :: y :: unzV r
structure VPPs (X : Cv) (pos : Pos) (keys : List (Option Expr)) (values : List Expr) (t : VTD) : Prop where
  ex : ∃ t' : WX → List (TE × TE), (∀ W, Takes X.toCx W → PPs X.toCx pos keys values (t' W)) ∧ ∀ (b : Bx X) σ H ε T Tv W N Q Q', SI X.K b.1 σ H ε T Tv → t N ε Q →
    (∀ ds (vs : List (V × V)) ε' H', SI X.K b.1 σ H' ε' (T ++ unz ds) (Tv ++ unzV vs) → ds.length = vs.length → Q ds ε' → Q' vs H') → XL X.K b.1 T Tv W N → tPairs (t' W) σ H Q'
def vdNil : VTD := fun _ ε Q => Q [] ε
def vdCons (tk tv : VTE) (u : VTD) : VTD := fun N ε Q => tk N ε fun k ε1 => tv N ε1 fun y ε2 => u N ε2 fun ds ε3 => Q ((k, y) :: ds) ε3
theorem vpps_nil {pos : Pos} : VPPs X pos [] [] vdNil := ⟨fun _ => [], fun _ _ => pps_nil, fun b σ H ε T Tv W N Q Q' I h k _ => k [] [] ε H (by simpa [unz, unzV] using I) rfl h⟩
theorem vpps_cons {pos : Pos} {e f : Expr} {ks : List (Option Expr)} {vs : List Expr} {tk tv : VTE} {u : VTD} (hk : VE X e tk) (hv : VE X f tv) (hr : VPPs X pos ks vs u) : VPPs X pos (some e :: ks) (f :: vs) (vdCons tk tv u) := by
  obtain ⟨tk', a1, a2⟩ := hk.ex
  obtain ⟨tv', b1, b2⟩ := hv.ex
  obtain ⟨u', c1, c2⟩ := hr.ex
  refine ⟨fun W => (tk' W, tv' W) :: u' W, fun W tk => pps_cons (a1 W tk) (b1 W tk) (c1 W tk), fun b σ H ε T Tv W N Q Q' I q k x => ?_⟩
  refine a2 b σ H ε T Tv W N _ _ I q (fun d v ε1 H1 J1 q1 => ?_) x
  refine b2 b σ H1 ε1 (T ++ [d]) (Tv ++ [v]) W N _ _ J1 q1 (fun d2 w ε2 H2 J2 q2 => ?_) (x.more I.lenT rfl)
  refine c2 b σ H2 ε2 (T ++ [d] ++ [d2]) (Tv ++ [v] ++ [w]) W N _ _ J2 q2 (fun ds us ε3 H3 J3 l q3 => ?_) ((x.more I.lenT rfl).more (lenApp I.lenT rfl) rfl)
  exact k ((d, d2) :: ds) ((v, w) :: us) ε3 H3 (by simpa only [unz, unzV, List.append_assoc, List.cons_append, List.nil_append] using J3) (by simp [l]) q3
/-- keys, and what stands under them -/
def keysD : List (D × D) → Option (List Kc)
  | [] => some []
  | (k, _) :: r => (keyD k).bind fun k => (keysD r).map (k :: ·)
def vDisp (t : VTD) : VTE := fun N ε Q => t N ε fun ds ε1 => ∃ ks, keysD ds = some ks ∧ ks.Nodup ∧ Q (.dK true ks (ds.map (·.2))) ε1
theorem keys_rpl {K : PySem.W.Frag} {G H : Hp} : ∀ {ds : List (D × D)} {vs : List (V × V)} {F : List Addr} {ks : List Kc}, RpL K G H (unz ds) (unzV vs) F → ds.length = vs.length → keysD ds = some ks → ks.length = ds.length ∧ vs = (ks.zip (vs.map (·.2))).map (fun p => (kV (kc p.1), p.2)) ∧ RpL K G H (ds.map (·.2)) (vs.map (·.2)) F
  | [], [], F, ks, r, _, h => by
    cases h
    exact ⟨rfl, rfl, r⟩
  | (k, y) :: ds, (v, w) :: vs, F, ks, r, hl, h => by
    obtain ⟨v', vs', F1, F2, e, rfl, rk, r⟩ := r
    obtain ⟨w', vs'', F3, F4, e2, rfl, ry, r⟩ := r
    have e : v :: w :: unzV vs = v' :: vs' := e
    cases e
    cases e2
    have h : ((keyD k).bind fun k => (keysD ds).map (k :: ·)) = some ks := h
    cases hk : keyD k with
    | none => rw [hk] at h; cases h
    | some k0 =>
      rw [hk] at h
      cases hr : keysD ds with
      | none => rw [hr] at h; cases h
      | some ks' =>
        rw [hr] at h
        cases h
        obtain ⟨rfl, rfl⟩ := rk.keyD hk
        obtain ⟨l1, e3, r3⟩ := keys_rpl r (Nat.succ.inj hl) hr
        refine ⟨by simp [l1], ?_, ⟨w, _, F3, F4, rfl, rfl, ry, r3⟩⟩
        simp only [List.map_cons, List.zip_cons_cons]
        rw [← e3]
  | [], _ :: _, _, _, _, hl, _ => by cases hl
  | _ :: _, [], _, _, _, hl, _ => by cases hl
theorem merge_new : ∀ {ks : List Kc} {vs : List V} {js : List Kc} {us : List V}, (js ++ ks).Nodup → ks.length = vs.length → js.length = us.length → mergeK (kzip js us) (kzip ks vs) = kzip (js ++ ks) (us ++ vs)
  | [], [], js, us, _, _, _ => by simp [mergeK, kzip]
  | k :: ks, v :: vs, js, us, nd, h, hj => by
    have nj : js.Nodup := (List.nodup_append.mp nd).1
    have hk : kIx js k = none := by
      cases e : kIx js k with
      | none => rfl
      | some i =>
        exfalso
        have hi := kIx_lt e
        have hm : k ∈ js := by
          clear nd nj hj h
          induction js generalizing i with
          | nil => cases e
          | cons a js ih =>
            unfold kIx at e
            split at e
            · rename_i q; rw [q]; exact List.mem_cons_self
            · cases e2 : kIx js k with
              | none => rw [e2] at e; cases e
              | some i2 => exact List.mem_cons_of_mem _ (ih i2 e2 (kIx_lt e2))
        exact (List.nodup_append.mp nd).2.2 k hm k List.mem_cons_self rfl
    show mergeK (putK (kzip js us) (kc k) v) (kzip ks vs) = _
    rw [kzip_put nj hj, hk]
    have := merge_new (ks := ks) (vs := vs) (js := js ++ [k]) (us := us ++ [v]) (by simpa using nd) (Nat.succ.inj h) (by simp [hj])
    simpa using this
  | [], _ :: _, _, _, _, h, _ => by cases h
  | _ :: _, [], _, _, _, h, _ => by cases h
theorem ve_disp {keys : List (Option Expr)} {values : List Expr} {t : VTD} {pos : Pos} (h : VPPs X pos keys values t) (hall : keys.all (·.isSome) = true := by rfl) (hl : keys.length = values.length := by rfl) (h0 : keys ≠ [] := by simp) (h15 : keys.length ≤ 15 := by decide)
    (hlen : ∀ N ε Q, t N ε Q → t N ε fun ds ε1 => ds.length ≤ 15 ∧ Q ds ε1) : VE X (.Dict keys values pos) (vDisp t) := by
  obtain ⟨t', h1, h2⟩ := h.ex
  refine ⟨fun W => tDisp (t' W), fun W tk => pe_disp (h1 W tk) hall hl h0 h15, fun b σ H ε T Tv W N Q Q' I q k x => fun p hp => ?_⟩
  have I0 : SI X.K b.1 σ (upd H p (.dK [])) ε (T ++ [.dK true [] []]) (Tv ++ [.ref p]) := SI.laid (ds := []) (vs := []) (by simpa using I) I.lenT hp (.dK []) fun G H' F e r => by
    obtain ⟨_, rfl⟩ := r
    exact ⟨p, [], [], rfl, e, rfl, rfl, List.nodup_nil, rfl, rfl⟩
  refine h2 b σ _ ε _ _ W N _ _ I0 (hlen _ _ _ q) (fun ds vs ε1 H1 J l z => ?_) (x.more I.lenT rfl)
  obtain ⟨l15, ks, hk, nd, z⟩ := z
  obtain ⟨G, F, Ft, J⟩ := J
  have J' := J
  obtain ⟨F1, F2, rfl, r1, r2⟩ := (show RpL X.K G H1 (T ++ ([.dK true [] []] ++ unz ds)) (Tv ++ ([.ref p] ++ unzV vs)) Ft by simpa only [List.append_assoc] using J.temps).split2 I.lenT
  obtain ⟨v0, vs0, A, B, e0, rfl, rp, rs⟩ := r2
  cases e0
  obtain ⟨p', us', F', ep, hd, rfl, _, _, ru⟩ := rp
  cases ep
  obtain ⟨rfl, rfl⟩ := ru
  obtain ⟨lk, ev, rv⟩ := keys_rpl rs l hk
  refine ⟨by simpa [kzip] using hd, (kzip ks (vs.map (·.2))), ?_, ?_, ?_⟩
  · conv => lhs; rw [ev]
    unfold kzip
    rw [List.zip_map_left, List.map_map]
    rfl
  · unfold kzip
    rw [List.length_zip, List.length_map]
    omega
  · have em : mergeK [] (kzip ks (vs.map (·.2))) = kzip ks (vs.map (·.2)) := merge_new (js := []) (us := []) (by simpa using nd) (by rw [List.length_map, lk, l]) rfl
    rw [em]
    have np : p ∉ F ++ (F1 ++ B) := fun hz => by
      have h3 := J.nd
      have h4 : (F ++ (F1 ++ ([p] ++ B))).Perm (p :: (F ++ (F1 ++ B))) := by
        apply List.perm_iff_count.mpr
        intro a
        simp only [List.count_append, List.count_cons, List.count_nil]
        omega
      exact (List.nodup_cons.mp (h4.nodup_iff.mp h3)).1 hz
    have mv : ∀ a ∈ F ++ (F1 ++ B), upd H1 p (.dK (kzip ks (vs.map (·.2)))) a = H1 a := fun a hz => upd_ne fun e => np (e ▸ hz)
    have gp : G p = none := J.fr p (by simp)
    refine k (.dK true ks (ds.map (·.2))) _ ε1 _ ⟨G, F, F1 ++ ([p] ++ B), J.s0, fun a o e => ?_, J.slots.mono Sub.refl fun a hz => mv a (List.mem_append_left _ hz), ?_, J.nd, J.fr, J.own, J.gn, fun a o e n => ?_, J.kept⟩ z
    · by_cases ha : a = p
      · rw [ha, gp] at e; cases e
      · rw [upd_ne ha]; exact J.sub a o e
    · refine (r1.mono Sub.refl fun a hz => mv a (List.mem_append_right _ (List.mem_append_left _ hz))).append (RpL.one.mpr ?_)
      exact ⟨p, vs.map (·.2), B, rfl, upd_same, rfl, by rw [List.length_map, lk], nd, rv.mono Sub.refl fun a hz => mv a (List.mem_append_right _ (List.mem_append_right _ hz))⟩
    · by_cases ha : a = p
      · subst ha
        rcases J.own a (by simp) with h5 | h5
        · exact absurd h5 n
        · rw [e] at h5; cases h5
      · rw [upd_ne ha]; exact J.keep a o e n
end
end VL
namespace VL
open PySem PySem.Spec PyProof.Rows L2 VL
end VL
namespace VL
open PySem PySem.Spec PyProof.Rows L2 VL
end VL
namespace VL
open PySem PySem.Spec PyProof.Rows L2 VL
inductive Rw where
  | sum (n : Nat) (x : Cs) (a : Opd) (s : Cs) (b : Opd)
  | test (n : Nat) (a : Opd) (s : Cs) (b : Opd) (to : Nat)
  | jump (n to : Nat)
  | fin (n : Nat)
def rwL : Rw → List D
  | .sum n x a s b => [.int (n : Int), .str cSum, .str x, opD a, .str s, opD b]
  | .test n a s b to => [.int (n : Int), .str cTest, opD a, .str s, opD b, .int (to : Int)]
  | .jump n to => [.int (n : Int), .str cJump, .int (to : Int)]
  | .fin n => [.int (n : Int), .str cEnd]
def rwD (r : Rw) : D := .tup (rwL r)
theorem rwD_fz (r : Rw) : isFz (rwD r) = true := by cases r <;> simp [rwD, rwL, isFz, isFzL, opD_fz]
theorem rws_fz (rs : List Rw) : isFzL (rs.map rwD) = true := by rw [isFzL_all]; simp [rwD_fz]
theorem rws_frz (rs : List Rw) : frzL (rs.map rwD) = rs.map rwD := frzL_id (rws_fz rs)
def Rw.num : Rw → Nat
  | .sum n _ _ _ _ => n
  | .test n _ _ _ _ => n
  | .jump n _ => n
  | .fin n => n
def Rw.tos : Rw → List Nat
  | .test _ _ _ _ to => [to]
  | .jump _ to => [to]
  | _ => []
def Rw.falls : Rw → Bool
  | .sum _ _ _ _ _ => true
  | .test _ _ _ _ _ => true
  | _ => false
def Rw.good : Rw → Bool
  | .sum _ x a s b => Cs.good x && (a.good && (Cs.good s && b.good))
  | .test _ a s b _ => a.good && (Cs.good s && b.good)
  | _ => true
def nums (rs : List Rw) : List Nat := rs.map Rw.num
theorem nums_len (rs : List Rw) : (nums rs).length = rs.length := by simp [nums]
structure RwOk (rs : List Rw) : Prop where
  pos : 0 < rs.length
  few : rs.length < 10000
  nd : (nums rs).Nodup
  tos : ∀ r ∈ rs, ∀ t ∈ r.tos, t ∈ nums rs
  good : ∀ r ∈ rs, r.good = true
  last : ∀ (k : Nat) r, rs[k]? = some r → r.falls = true → k + 1 < rs.length
def nxJ (rs : List Rw) (k : Nat) : Option Nat := match rs[k]? with
  | some (.jump _ to) => some ((nums rs).idxOf to)
  | _ => none
def stopJ (nx : Nat → Option Nat) : Nat → List Nat → Nat → Nat
  | 0, _, k => k
  | f + 1, seen, k => match nx k with
    | none => k
    | some b => if k ∈ seen then k else stopJ nx f (seen ++ [k]) b
def ringJ (nx : Nat → Option Nat) (c : Nat) : Nat → Nat → Nat → Nat
  | 0, m, _ => m
  | f + 1, m, h => if h = c then m else ringJ nx c f (min m h) ((nx h).getD 0)
def comeTo (rs : List Rw) (k : Nat) : Nat := match nxJ rs (stopJ (nxJ rs) (rs.length + 1) [] k) with
  | none => stopJ (nxJ rs) (rs.length + 1) [] k
  | some b => ringJ (nxJ rs) (stopJ (nxJ rs) (rs.length + 1) [] k) (rs.length + 1) (stopJ (nxJ rs) (rs.length + 1) [] k) b
theorem nx_lt {rs : List Rw} (R : RwOk rs) {k b : Nat} (h : nxJ rs k = some b) : b < rs.length := by
  unfold nxJ at h
  split at h
  · rename_i n to e
    cases h
    rw [← nums_len]
    exact List.idxOf_lt_length_iff.mpr (R.tos _ (List.mem_of_getElem? e) to (by simp [Rw.tos]))
  · cases h
/-- what is known on the way: those seen stand one behind the other -/
structure JInv (rs : List Rw) (k0 : Nat) (seen : List Nat) (k : Nat) : Prop where
  nd : seen.Nodup
  rng : ∀ x ∈ seen, x < rs.length
  lt : k < rs.length
  ch : ∀ (i a : Nat), seen[i]? = some a → nxJ rs a = (seen ++ [k])[i + 1]?
  val : stopJ (nxJ rs) (rs.length + 1 - seen.length) seen k = stopJ (nxJ rs) (rs.length + 1) [] k0
theorem JInv.start {rs : List Rw} {k : Nat} (h : k < rs.length) : JInv rs k [] k := ⟨List.nodup_nil, fun _ z => (nomatch z), h, fun i a z => (by simp at z), rfl⟩
theorem JInv.len {rs : List Rw} {k0 k : Nat} {seen : List Nat} (I : JInv rs k0 seen k) : seen.length ≤ rs.length := nodup_len I.nd I.rng
theorem JInv.more {rs : List Rw} (R : RwOk rs) {k0 k b : Nat} {seen : List Nat} (I : JInv rs k0 seen k) (h : nxJ rs k = some b) (hk : k ∉ seen) : JInv rs k0 (seen ++ [k]) b ∧ seen.length < rs.length := by
  have nd : (seen ++ [k]).Nodup := List.nodup_append.mpr ⟨I.nd, by simp, fun x hx y hy e => by rw [List.mem_singleton.mp hy] at e; exact hk (e ▸ hx)⟩
  have rg : ∀ x ∈ seen ++ [k], x < rs.length := fun x hx => by
    rcases List.mem_append.mp hx with hx | hx
    · exact I.rng x hx
    · rw [List.mem_singleton.mp hx]; exact I.lt
  have l := nodup_len nd rg
  rw [List.length_append, List.length_singleton] at l
  refine ⟨⟨nd, rg, nx_lt R h, fun i a e => ?_, ?_⟩, by omega⟩
  · have hi := (List.getElem?_eq_some_iff.mp e).1
    rw [List.length_append, List.length_singleton] at hi
    by_cases q : i < seen.length
    · rw [List.getElem?_append_left q] at e
      rw [I.ch i a e]
      rw [List.getElem?_append_left (l₁ := seen ++ [k]) (by simp; omega)]
    · have qi : i = seen.length := by omega
      subst qi
      rw [List.getElem?_append_right (Nat.le_refl _)] at e
      simp at e
      subst e
      rw [h]
      simp
  · rw [← I.val]
    obtain ⟨f, hf⟩ : ∃ f, rs.length + 1 - seen.length = f + 1 := ⟨rs.length - seen.length, by omega⟩
    have e2 : rs.length + 1 - (seen ++ [k]).length = f := by rw [List.length_append, List.length_singleton]; omega
    rw [e2, hf]
    show _ = (match nxJ rs k with | none => k | some b => if k ∈ seen then k else stopJ (nxJ rs) f (seen ++ [k]) b)
    rw [h]
    show _ = (if k ∈ seen then k else stopJ (nxJ rs) f (seen ++ [k]) b)
    rw [if_neg hk]
theorem JInv.stop {rs : List Rw} {k0 k : Nat} {seen : List Nat} (I : JInv rs k0 seen k) (h : nxJ rs k = none ∨ k ∈ seen) : stopJ (nxJ rs) (rs.length + 1) [] k0 = k := by
  rw [← I.val]
  have := I.len
  obtain ⟨f, hf⟩ : ∃ f, rs.length + 1 - seen.length = f + 1 := ⟨rs.length - seen.length, by omega⟩
  rw [hf]
  show (match nxJ rs k with | none => k | some b => if k ∈ seen then k else stopJ (nxJ rs) f (seen ++ [k]) b) = k
  split
  · rfl
  · rename_i b e
    rcases h with h | h
    · rw [h] at e; cases e
    · rw [if_pos h]
/-- the ring: from its place in those seen on to their end -/
structure KInv (rs : List Rw) (k0 c m h i : Nat) (seen : List Nat) (j : Nat) : Prop where
  at_ : seen[j]? = some c
  le : j < i ∧ i ≤ seen.length
  here : (seen ++ [c])[i]? = some h
  val : ringJ (nxJ rs) c (rs.length + 1 - (i - j - 1)) m h = comeTo rs k0
theorem JInv.ring {rs : List Rw} {k0 k b : Nat} {seen : List Nat} (I : JInv rs k0 seen k) (hk : k ∈ seen) (h : nxJ rs k = some b) : ∃ j, KInv rs k0 k k b (j + 1) seen j := by
  obtain ⟨j, hj⟩ := List.mem_iff_getElem?.mp hk
  have e := I.ch j k hj
  rw [h] at e
  refine ⟨j, hj, ⟨by omega, (List.getElem?_eq_some_iff.mp hj).1⟩, e.symm, ?_⟩
  have e2 : j + 1 - j - 1 = 0 := by omega
  rw [e2]
  unfold comeTo
  rw [I.stop (.inr hk), h]
  rfl
theorem KInv.next {rs : List Rw} (R : RwOk rs) {k0 c m h i j : Nat} {seen : List Nat} (J : JInv rs k0 seen c) (I : KInv rs k0 c m h i seen j) (hn : h ≠ c) : i < seen.length ∧ ∃ b, nxJ rs h = some b ∧ KInv rs k0 c (min m h) b (i + 1) seen j := by
  have hi : i < seen.length := by
    by_cases q : i < seen.length
    · exact q
    · exfalso
      have qi : i = seen.length := by have := I.le.2; omega
      have := I.here
      rw [qi, List.getElem?_append_right (Nat.le_refl _)] at this
      simp at this
      exact hn this.symm
  have hh : seen[i]? = some h := by have := I.here; rwa [List.getElem?_append_left hi] at this
  have e := J.ch i h hh
  have hlt : i + 1 < (seen ++ [c]).length := by simp; omega
  rw [List.getElem?_eq_getElem hlt] at e
  refine ⟨hi, _, e, I.at_, ⟨by have := I.le.1; omega, hi⟩, List.getElem?_eq_getElem hlt, ?_⟩
  rw [← I.val]
  have l := J.len
  obtain ⟨f, hf⟩ : ∃ f, rs.length + 1 - (i - j - 1) = f + 1 := ⟨rs.length - (i - j - 1), by omega⟩
  have e2 : rs.length + 1 - (i + 1 - j - 1) = f := by have := I.le.1; omega
  rw [e2, hf]
  show _ = (if h = c then m else ringJ (nxJ rs) c f (min m h) ((nxJ rs h).getD 0))
  rw [if_neg hn, e]
  rfl
theorem KInv.stop {rs : List Rw} {k0 c m h i j : Nat} {seen : List Nat} (J : JInv rs k0 seen c) (I : KInv rs k0 c m h i seen j) (hn : h = c) : comeTo rs k0 = m := by
  rw [← I.val]
  have l := J.len
  have := I.le
  obtain ⟨f, hf⟩ : ∃ f, rs.length + 1 - (i - j - 1) = f + 1 := ⟨rs.length - (i - j - 1), by omega⟩
  rw [hf]
  show (if h = c then m else _) = m
  rw [if_pos hn]
def strsD (nm : List Cs) : List D := nm.map D.str
theorem strs_fz (nm : List Cs) : isFzL (strsD nm) = true := by rw [isFzL_all]; simp [strsD, isFz]
theorem strs_frz (nm : List Cs) : frzL (strsD nm) = strsD nm := frzL_id (strs_fz nm)
end VL
namespace VL
open PySem PySem.Spec PyProof.Rows L2 VL
/-- where a node falls to -/
def lastG : Nd → Option Nat
  | .sum _ _ _ _ to => some to
  | .test _ _ _ _ n => some n
  | _ => none
def firstRow (f : Nat → Nat) (k : Nat) : Nd → Rw
  | .sum x a s b _ => .sum (f k) x a s b
  | .test a s b y _ => .test (f k) a s b (f y)
  | .fin => .fin (f k)
  | .spin => .jump (f k) (f k)
def blk (f : Nat → Nat) (jf : Nat → Nd → Bool) (k : Nat) (x : Nd) : List Rw := firstRow f k x :: (match lastG x with
  | some t => if jf k x then [.jump (f k + 1) (f t)] else []
  | none => [])
end VL
namespace VL
open PySem PySem.Spec PyProof.Rows L2 VL
end VL
namespace VL
open PySem PySem.Spec PyProof.Rows L2 VL
def initP : Str × Option Str := ("JumpError", some "__init__")
abbrev fiA (K : PySem.W.Frag) : Addr := He.fAd K initP
def oexB (K : PySem.W.Frag) (C : Addr) : Bool := match K.lookup C with
  | some ⟨.type ty, _, .cls cd, sl⟩ => (match cd.mro, sl.toList with
    | .ref C' :: bm, [_, _, _, _, some (.builtin n), _] => decide (ty = "type") && (decide (C' = C) && (decide (n = "ValueError.__new__") && (!cd.hasDel && (cd.hasDict && PySem.HandSPX.refsVE bm))))
    | _, _ => false)
  | _ => false
theorem oexB_ok {K : PySem.W.Frag} {C : Addr} (h : oexB K C = true) : ∃ nm q N bs bm sn sub ab col dd k0 k1 k2 k3 k5, K.lookup C = some (excClassObj nm q C N bs bm true sn sub ab col dd k0 k1 k2 k3 k5 "ValueError.__new__") ∧ PySem.HandSPX.refsVE bm = true := by
  unfold oexB at h
  split at h
  · rename_i ty dd cd sl ho
    split at h
    · rename_i C' bm k0 k1 k2 k3 n k5 hm hs
      simp only [Bool.and_eq_true, decide_eq_true_eq, Bool.not_eq_true'] at h
      obtain ⟨h0, h1, h2, h3, h4, h5⟩ := h
      subst h0 h1 h2
      obtain ⟨nm, bs, mro, ns, qn, hd, sn, sub, ab, col, de⟩ := cd
      dsimp only at hm h3 h4
      subst hm h3 h4
      obtain ⟨l⟩ := sl
      have hs : l = _ := hs
      subst hs
      exact ⟨nm, qn, ns, bs, bm, sn, sub, ab, col, dd, k0, k1, k2, k3, k5, ho, h5⟩
    · cases h
  · cases h
def oexA (K : PySem.W.Frag) (x : Str) : Bool := oexB K (He.ga K x) && (decide (PySem.W.findIn K (.ref (He.ga K x)) "__setattr__" = some (some (.builtin "object.__setattr__"))) && (decide (PySem.W.typeIn K (.ref (He.ga K x)) = some (.type "type")) &&
  (PySem.W.keepIn K (.ref (He.ga K x)) && (decide (PySem.W.findIn K (.ref (He.ga K x)) "__init__" = some (some (.ref (fiA K)))) && (decide (PySem.W.findIn K (.ref (He.ga K x)) "row" = some none) && (xfB K (He.ga K x) &&
  (decide (PySem.W.findIn K (.ref (He.ga K x)) "__class__" = some (some (.builtin "object.__class__"))) && decide (PySem.W.mroIn K (He.ga K x) (.type "object") = some true))))))))
def cfV (v : Value) : Option PySem.W.CFound → Bool
  | some (.val u) => decide (u = v)
  | _ => false
theorem cfV_ok {v : Value} {o : Option PySem.W.CFound} (h : cfV v o = true) : o = some (.val v) := by
  unfold cfV at h
  split at h
  · rw [of_decide_eq_true h]
  · cases h
def oexG (K : PySem.W.Frag) : Bool := cfV (.builtin "ValueError.__init__") (PySem.W.findCls K (.type "ValueError") (.type "type") "__init__") && (decide (PySem.W.typeIn K (.ref (fiA K)) = some (.type "function")) &&
  (decide (PySem.W.specialIn K (.builtin "object.__class__") "__get__" = some (some (.builtin "getset_descriptor.__get__"))) && decide (PySem.W.takesIn K (.builtin "object.__class__") = some true)))
structure OexW (K : PySem.W.Frag) : Prop where
  vV : PySem.W.findCls K (.type "ValueError") (.type "type") "__init__" = some (.val (.builtin "ValueError.__init__"))
  tI : PySem.W.typeIn K (.ref (fiA K)) = some (.type "function")
  hn : PySem.W.specialIn K (.builtin "object.__class__") "__get__" = some (some (.builtin "getset_descriptor.__get__"))
  ht : PySem.W.takesIn K (.builtin "object.__class__") = some true
structure Oex (K : PySem.W.Frag) (x : Str) : Prop where
  oc : OexC K (He.ga K x)
  ini : PySem.W.findIn K (.ref (He.ga K x)) "__init__" = some (some (.ref (fiA K)))
  row : PySem.W.findIn K (.ref (He.ga K x)) "row" = some none
  xf : XfC K (He.ga K x)
  ec : ExcC K (He.ga K x)
theorem oexG_ok {K : PySem.W.Frag} (h : oexG K = true) : OexW K := by
  obtain ⟨h1, h⟩ := Bool.and_eq_true_iff.mp h
  obtain ⟨h2, h⟩ := Bool.and_eq_true_iff.mp h
  obtain ⟨h3, h4⟩ := Bool.and_eq_true_iff.mp h
  exact ⟨cfV_ok h1, of_decide_eq_true h2, of_decide_eq_true h3, of_decide_eq_true h4⟩
theorem oex_ok {K : PySem.W.Frag} {x : Str} (g : OexW K) (h : oexA K x = true) : Oex K x := by
  obtain ⟨h1, h⟩ := Bool.and_eq_true_iff.mp h
  obtain ⟨h2, h⟩ := Bool.and_eq_true_iff.mp h
  obtain ⟨h3, h⟩ := Bool.and_eq_true_iff.mp h
  obtain ⟨h4, h⟩ := Bool.and_eq_true_iff.mp h
  obtain ⟨h5, h⟩ := Bool.and_eq_true_iff.mp h
  obtain ⟨h6, h⟩ := Bool.and_eq_true_iff.mp h
  obtain ⟨h7, h⟩ := Bool.and_eq_true_iff.mp h
  obtain ⟨h8, h9⟩ := Bool.and_eq_true_iff.mp h
  have xf := xfB_ok h7
  exact ⟨⟨oexB_ok h1, of_decide_eq_true h2, xf.exC, of_decide_eq_true h3, h4⟩, of_decide_eq_true h5, of_decide_eq_true h6, xf, ⟨xf.ga, xf.gg, xf.exC, xf.hdC, of_decide_eq_true h8, g.hn, g.ht, of_decide_eq_true h9⟩⟩
/-- __init__(self, row), walked -/
def spI (K : PySem.W.Frag) : Sp := fun vs H Q _ => ∃ (a C : Addr) (r : V), vs = [.ref a, r] ∧ H a = some (exo a C none) ∧ OexC K C ∧ PySem.W.findIn K (.ref C) "row" = some none ∧
  ∀ dx, H dx = none → dx ≠ a → Q .non (upd (upd H dx (exd dx [("row", r)])) a (exo a C (some dx)))
end VL
namespace VL
open PySem PySem.Spec PyProof.Rows L2 VL
def tIni (K : PySem.W.Frag) : TS := tSeq (tDrop (tVeI K (tCons (tVar 0) (tCons (tC (.str "refused")) tNil)))) (tOst K "row" (tVar 0) (tVar 1))
theorem init_ok {P : Program} {w : World} {K : PySem.W.Frag} {mg : Str → Option Value} {base : Heap} {params : Arguments} {body : List Stmt} {scope : Scope} {dvs : List V} {f : Addr} {fd : FuncData} {k : Nat}
    (F : FunD K "__init__" "JumpError.__init__" params body scope dvs [] f fd) (S : FnScope ["self", "row"] ["self", "row"] scope)
    (hb : ∀ (cdv : Value) (A : Around) (outer : List Env) (s : Shared) (H : Hp) (E : XK), PSs (cxOf (VL.CX P w) P w K mg base ["self", "row"] "JumpError.__init__" scope f cdv A outer s H E) body (tIni K)) :
    FnOk P w K mg base (VL.CX P w) (k + 1) f fd ["self", "row"] (spI K) := by
  refine fnD_ok F S (fun ⟨a, C, r, h, _⟩ => by rw [h]; rfl) fun cdv A outer s H vs Q E hr h => ⟨_, hb cdv A outer s H E, ?_⟩
  obtain ⟨a, C, r, rfl, e, oc, ro, q⟩ := h
  refine ⟨_, rfl, a, C, _, rfl, by simp, oc, e, ?_⟩
  exact ⟨r, rfl, .ref a, rfl, a, C, rfl, oc, ro, .inl ⟨e, q⟩⟩
section
variable {X : Cx} {p pos : Pos}
/-- what C() leaves -/
def tMk0 (C : Addr) (sp : Sp) (dvs : List V) : L2.St → Hp → XK → Prop := fun _ H1 Q => ∀ a, H1 a = none → sp (.ref a :: dvs) (upd H1 a (exo a C none))
  (fun v H2 => v = .non ∧ ∃ (d : Addr) (fs : List (Str × V)), H2 a = some (exo a C (some d)) ∧ H2 d = some (exd d fs) ∧ H1 d = none ∧ Q (.ref C) (some d) (upd (del H2 a) d (.xd fs))) (fun _ _ _ => False)
theorem pmk_oex0 {CX : CXT} {x : Str} {C fI : Addr} {k : Nat} {fd : FuncData} {ps : List Str} {sp : Sp} {ds : List Value} {dvs : List V} (T : OexC X.K C) (iC : PySem.W.findIn X.K (.ref C) "__init__" = some (some (.ref fI))) (tI : PySem.W.typeIn X.K (.ref fI) = some (.type "function"))
    (F1 : FnOk X.prog X.w X.K X.mg X.base CX k fI fd ps sp) (hr : Room (k + 1) X.A) (hb : Binds X.K fd ps ds) (hd : Vals dvs ds) (hx : Passes CX X (fun _ _ _ => False)) (hg : Gl X x) (hm : X.mg x = some (.ref C))
    (hdb : (x == ("__debug__" : Str)) = false := by decide) :
    PMk X (.Call (.Name x p) [] [] pos) (tMk0 C sp dvs) := by
  intro pins s σ H Q I h
  obtain ⟨nm, q, N, bs, bm, sn, sub, ab, col, dd, k0, k1, k2, k3, k5, hC, hbm⟩ := T.cls
  refine wpAny_Call_Name_kw (ld_glob I hg hm ?_ hdb)
  refine PySem.W.callWith_K0 I.kIn T.kC ?_
  show wpAny _ _ (call (.ref C) ([] : List Value)) _ _ _
  obtain ⟨hp, g, dr, tk, os⟩ := s
  have lt : hp.objs.size ≤ hp.objs.size + 1 := Nat.le_succ _
  have fr : H (hp.objs.size + 1) = none := I.hok.fresh lt
  have q0 := h (hp.objs.size + 1) fr
  have up : ∀ b o, hp.get? b = some o → ((hp.push (PySem.W.kdv_tup [])).push (PySem.HandSPX.excO C hp.objs.size)).get? b = some o := fun b o e => Heap.get?_push_of_some _ (Heap.get?_push_of_some _ e)
  have at2 : ((hp.push (PySem.W.kdv_tup [])).push (PySem.HandSPX.excO C hp.objs.size)).get? (hp.objs.size + 1) = some (PySem.HandSPX.excO C hp.objs.size) := by heap_get
  have I2 : Inv X pins σ (upd H (hp.objs.size + 1) (exo (hp.objs.size + 1) C none)) ⟨(hp.push (PySem.W.kdv_tup [])).push (PySem.HandSPX.excO C hp.objs.size), g, dr, tk, os⟩ :=
    I.laid (t' := tk) (a := hp.objs.size + 1) (o := exo (hp.objs.size + 1) C none) (h' := (hp.push (PySem.W.kdv_tup [])).push (PySem.HandSPX.excO C hp.objs.size)) up lt (exo_ok at2)
  have rv : Vals (V.ref (hp.objs.size + 1) :: dvs) (Value.ref (hp.objs.size + 1) :: ds) := .cons rfl hd
  have ln : ([Value.ref (hp.objs.size + 1)] ++ ds).length = ps.length := by
    have e := rv.length
    rw [F1.len q0] at e
    exact e.symm
  refine wpAny_call (PySem.HandSPX.call_own F.excBase_ValueError (fun Y => PySem.HandSPX.refsVE_contains Y bm hbm) (I.kIn _ _ hC) (PySem.W.looks_findIn I.kIn iC) (fun self => PySem.W.bind_fn I.kIn self tI) (rest := []) (Nat.zero_le _)
    (codeAny_mono (F1.keeps (hr.make C [] []) X.stack _ _ ⟨[Value.ref (hp.objs.size + 1)], []⟩ (Value.ref (hp.objs.size + 1) :: ds) _ _ (fun _ _ _ => False) (I2.env0.make C [] []) (hb _ [Value.ref (hp.objs.size + 1)] I2.kIn ln) rv q0) fun r s' hq' => ?_))
  cases r with
  | error er => exact hx pins σ _ _ er s' I2 hq'
  | ok fl =>
    cases fl with
    | ret u =>
      obtain ⟨v, H2, os2, bare2, un2, hok2, ru, ev, d, fs, ea, ed, hd1, q2⟩ := hq'
      subst ev
      obtain ⟨h2, g2, d2, t2, os'⟩ := s'
      obtain ⟨t0, G, J, kG, ge, hoe, na⟩ := mk_end0 (d2 := d2) (t2 := t2) I lt up un2 hok2 os2 bare2 ea ed hd1
      exact ⟨ru, _, _, _, ⟨G, g2, d2, t2, os'⟩, _, .ref C, some d, rfl, J, kG, ge, hoe, ⟨rfl, rfl, fun vs e => by cases e; rfl⟩, rfl, rfl, na, rfl, bare2, raises_own T.exC T.tyC, q2⟩
    | next => exact False.elim hq'
    | brk => exact False.elim hq'
    | cont => exact False.elim hq'
end
/-- the base's __init__, as every class of the law's calls it -/
structure ExFn (P : Program) (w : World) (K : PySem.W.Frag) (mg : Str → Option Value) (base : Heap) (k : Nat) : Prop where
  ex : ∃ fd ds, Vals [.non] ds ∧ Binds K fd ["self", "row"] ds ∧ FnOk P w K mg base (VL.CX P w) k (fiA K) fd ["self", "row"] (spI K)
theorem ExFn.mono {P w K mg base j k} (F : ExFn P w K mg base j) (h : j ≤ k) : ExFn P w K mg base k := let ⟨fd, ds, a, b, c⟩ := F.ex; ⟨fd, ds, a, b, c.mono h⟩
theorem no_pass {X : Cx} : Passes (VL.CX X.prog X.w) X (fun _ _ _ => False) := fun _ _ _ _ _ _ _ h => by
  obtain ⟨_, _, _, _, _, _, _, _, _, _, _, _, z⟩ := h
  exact z.elim
section
variable {X : Cv}
def vRaise (s : String) : VTS := fun N ε => N.rx (.type s) .non ε
theorem vs_raise {s : String} {x : Str} {k : Nat} {p pos pos' : Pos} (hx : Str.ofString s = x) (E : ExFn X.prog X.w X.K X.mg X.base k) (W : OexW X.K) (O : Oex X.K x) (hc : X.calm = true) (hr : Room (k + 1) X.A) (hg : Gl X.toCx x) (hm : X.mg x = some (.ref (He.ga X.K x)))
    (hdb : (x == ("__debug__" : Str)) = false := by decide) : VS X (.Raise (some (.Call (.Name x p) [] [] pos)) none pos') (vRaise s) := by
  subst hx
  obtain ⟨fd, ds, hd, hb, F⟩ := E.ex
  refine ⟨fun W' => fun _ σ H => tMk0 (He.ga X.K (Str.ofString s)) (spI X.K) [.non] σ H fun cls d H' => W' cls d σ H', fun W' tk => L2N.ps_raise hc tk (pmk_oex0 O.oc O.ini W.tI F hr hb hd no_pass hg hm hdb), fun b σ H ε T Tv W' N E' I q _ x => ?_⟩
  intro a na
  refine ⟨a, He.ga X.K (Str.ofString s), .non, rfl, upd_same, O.oc, O.row, fun dx nd ne => ⟨rfl, dx, [("row", .non)], upd_same, ?_, ?_, ?_⟩⟩
  · rw [upd_ne ne, upd_same]
  · rw [upd_ne ne] at nd
    exact nd
  · rw [upd_ne ne] at nd
    have e : upd (del (upd (upd (upd H a (exo a (He.ga X.K (Str.ofString s)) none)) dx (exd dx [("row", V.non)])) a (exo a (He.ga X.K (Str.ofString s)) (some dx))) a) dx (.xd [("row", V.non)]) = upd H dx (.xd [("row", .non)]) := by
      funext b
      by_cases h1 : b = dx
      · subst h1
        rw [upd_same, upd_same]
      · rw [upd_ne h1, upd_ne h1]
        by_cases h2 : b = a
        · subst h2
          rw [del_same, na]
        · rw [del_ne h2, upd_ne h2, upd_ne h1, upd_ne h2]
    rw [e]
    obtain ⟨G, Fs, Ft, J⟩ := id I
    have h0 := J.h0 nd
    have sb : Sub H (upd H dx (.xd [("row", .non)])) := Sub.refl.upd nd
    have I2 := (I.grow sb).push (d := .non) (v := .non) fun _ => ⟨rfl, rfl⟩
    exact x (.type s) dx σ _ ε .non .non I2 upd_same h0 q
end
end VL
namespace VL
open PySem PySem.Spec PyProof.Rows L2 VL
section
variable {K : PySem.W.Frag} {b : Bs} {σ : L2.St} {H : Hp} {ε : Ep} {T : List D} {Tv : List V}
/-- the caught exception goes to a slot -/
theorem SI.exn {row : D} {v : V} {a dd : Addr} {cls : Value} {i : Nat} (I : SI K b σ H ε (T ++ [row]) (Tv ++ [v])) (hl : T.length = Tv.length) (e : H dd = some (.xd [("row", v)])) (fr : dd ∈ b.F0 ∨ b.H0 dd = none) (na : H a = none) (fz : isFz row = true)
    (hi : i < ε.length) (hk : ∀ u, b.kv[i]? ≠ some (some u)) : SI K b (σ.set i (some (.ref a))) (L2.upd H a (exk (clsV K cls) dd a)) (ε.set i (some (.exn a dd cls row))) T Tv := by
  have had : dd ≠ a := fun z => by rw [z, na] at e; cases e
  have hsub : Sub H (L2.upd H a (exk (clsV K cls) dd a)) := Sub.laid na
  obtain ⟨G, F, Ft, J0⟩ := I
  have nF := J0.ne na
  have nG := J0.gne na
  have aF := J0.h0 na
  have J := J0.grow hsub
  have e' : L2.upd H a (exk (clsV K cls) dd a) dd = some (.xd [("row", v)]) := hsub _ _ e
  clear J0 hsub
  generalize hH : L2.upd H a (exk (clsV K cls) dd a) = H' at J e' ⊢
  have ea : H' a = some (exk (clsV K cls) dd a) := by rw [← hH, upd_same]
  clear hH e
  obtain ⟨F1, F2, rfl, r1, r2⟩ := J.temps.split2 hl
  have r2 := RpL.one.mp r2
  have e2 := r2.fz fz
  subst e2
  have nd : dd ∉ F ++ F1 := fun z => by
    have z2 : ∃ o, H' dd = some o ∧ Mut (some o) := by
      rcases List.mem_append.mp z with z | z
      · exact J.slots.there dd z
      · exact r1.there dd z
    obtain ⟨o, eo, m⟩ := z2
    rw [e'] at eo
    cases eo
    exact m
  have sg1 : Sub G (L2.upd G dd (.xd [("row", v)])) := fun p o ep => by
    by_cases h : p = dd
    · subst h
      rw [upd_same, ← J.sub _ _ ep, e']
    · rw [upd_ne h]; exact ep
  have n1 : L2.upd G dd (.xd [("row", v)]) a = none := by rw [upd_ne had.symm]; exact nG
  have sg : Sub G (L2.upd (L2.upd G dd (.xd [("row", v)])) a (exk (clsV K cls) dd a)) := sg1.trans (Sub.laid n1)
  have nf : ∀ a ∈ F ++ F1, G a = none := fun a z => J.fr a (by simpa using z)
  refine SI.store (d := .exn a dd cls row) (v := .ref a) ⟨L2.upd (L2.upd G dd (.xd [("row", v)])) a (exk (clsV K cls) dd a), F, F1, J.s0.trans sg, fun p o ep => ?_, J.slots.mono sg fun _ _ => rfl, ?_, by simpa using J.nd, fun p z => ?_, fun p z => J.own p (by simpa using z), fun p o ea => ?_, J.keep, J.kept⟩ hl hi hk
  · by_cases h2 : p = a
    · subst h2
      rw [upd_same] at ep
      rw [ea, ep]
    · rw [upd_ne h2] at ep
      by_cases h : p = dd
      · subst h
        rw [upd_same] at ep
        rw [e', ep]
      · rw [upd_ne h] at ep; exact J.sub _ _ ep
  · have q := (r1.mono sg fun _ _ => rfl).append (RpL.one.mpr (show Rp K (L2.upd (L2.upd G dd (.xd [("row", v)])) a (exk (clsV K cls) dd a)) H' (.exn a dd cls row) (.ref a) [] from ⟨⟨rfl, upd_same⟩, v, by rw [upd_ne had]; exact upd_same, r2.mono sg fun _ _ => rfl⟩))
    rw [List.append_nil] at q
    exact q
  · have h1 : p ≠ dd := fun h => nd (h ▸ z)
    have h2 : p ≠ a := fun h => nF (by rw [← h]; simpa using z)
    rw [upd_ne h2, upd_ne h1]
    exact nf p z
  · by_cases h2 : p = a
    · subst h2
      exact .inr (inl3 aF)
    · rw [upd_ne h2] at ea
      by_cases h : p = dd
      · subst h
        exact .inr (inl3 fr)
      · rw [upd_ne h] at ea
        exact J.gn p o ea
end
abbrev trX (X : Cv) (pn : List (Addr × Obj)) (xe : Value → Shared → Prop) : Cv := { X with toCx := X.toCx.tr pn xe }
abbrev suX (X : Cv) (a : Addr) (oe : Obj) (pn : List (Addr × Obj)) : Cv := { X with toCx := X.toCx.suite a ((a, oe) :: pn) }
structure Caught (K : PySem.W.Frag) (s : String) (dd : Addr) (oe : Obj) : Prop where
  z : L2N.Zn (clsV K (.type s)) (some dd) oe
  f : ∃ vs, oe.data = .fields vs
/-- tab: of which classes, and whether they are caught -/
abbrev XTab := String → Option Bool
section
variable {X : Cv} {x n : Str} {c : Value} {i : Nat} {tab : XTab} {body suite : List Stmt} {b₀ : Stmt} {np pos pos' : Pos} {tb : VTS}
theorem takes_noX {Y : Cx} : Takes Y (fun _ _ _ _ => False) := fun _ _ ⟨_, _, _, _, _, _, _, _, _, _, _, _, _, _, _, _, w⟩ => w.elim
/-- the body's reading, alike for all that is pinned -/
theorem try_body (hb : ∀ pn xe, PassesOwn (model X.prog X.w) X.A X.env xe → VSs (trX X pn xe) body tb) : ∃ u : WX → TS, (∀ W pn xe, Takes (X.toCx.tr pn xe) W → PassesOwn (model X.prog X.w) X.A X.env xe → PSs (X.toCx.tr pn xe) body (u W)) ∧
    ∀ (b : Bx X) σ H ε T Tv W N E, SI X.K b.1 σ H ε T Tv → tb N ε → EL X.K b.1 T Tv N E → XL X.K b.1 T Tv W N.rx → u W E σ H := by
  obtain ⟨f, hf⟩ := Classical.axiomOfChoice (fun p : { p : List (Addr × Obj) × (Value → Shared → Prop) // PassesOwn (model X.prog X.w) X.A X.env p.2 } => (hb p.1.1 p.1.2 p.2).ex)
  refine ⟨fun W D σ H => ∀ p, f p W D σ H, fun W pn xe tk hp => ⟨fun pins s σ H D I h => ((hf ⟨(pn, xe), hp⟩).1 W tk).run pins s σ H D I (h ⟨(pn, xe), hp⟩)⟩, fun b σ H ε T Tv W N E I q l x p => (hf p).2 b σ H ε T Tv W N E I q l x⟩
theorem try_suite {ts : Addr → Addr → String → VTS} (hsu : ∀ a dd s oe pn, (tab s).isSome = true → Caught X.K s dd oe → VSs (suX X a oe pn) (b₀ :: suite) (ts a dd s)) :
    ∃ u : Addr → Value → Option Addr → TS, (∀ a oe cls d pn, L2N.Zn cls d oe → (∃ vs, oe.data = .fields vs) → PSs (X.toCx.suite a ((a, oe) :: pn)) (b₀ :: suite) (u a cls d)) ∧
      ∀ (b : Bx X) σ H ε T Tv N E a dd s, (tab s).isSome = true → SI X.K b.1 σ H ε T Tv → ts a dd s N ε → EL X.K b.1 T Tv N E → N.rx = (fun _ _ _ => False) → u a (clsV X.K (.type s)) (some dd) E σ H := by
  obtain ⟨f, hf⟩ := Classical.axiomOfChoice (fun p : { p : Addr × Addr × String × Obj × List (Addr × Obj) // (tab p.2.2.1).isSome = true ∧ Caught X.K p.2.2.1 p.2.1 p.2.2.2.1 } => (hsu p.1.1 p.1.2.1 p.1.2.2.1 p.1.2.2.2.1 p.1.2.2.2.2 p.2.1 p.2.2).ex)
  refine ⟨fun a cls d D σ H => ∃ dd s, cls = clsV X.K (.type s) ∧ d = some dd ∧ (tab s).isSome = true ∧ ∀ p, p.1.1 = a → p.1.2.1 = dd → p.1.2.2.1 = s → f p (fun _ _ _ _ => False) D σ H, fun a oe cls d pn hz hv => ⟨fun pins s σ H D I h => ?_⟩, fun b σ H ε T Tv N E a dd s ht I q l hx => ?_⟩
  · obtain ⟨dd, s', rfl, rfl, ht, h⟩ := h
    exact ((hf ⟨(a, dd, s', oe, pn), ht, hz, hv⟩).1 _ takes_noX).run pins s σ H D I (h ⟨(a, dd, s', oe, pn), ht, hz, hv⟩ rfl rfl rfl)
  · refine ⟨dd, s, rfl, rfl, ht, fun p e1 e2 e3 => ?_⟩
    subst e1 e2 e3
    exact (hf p).2 b σ H ε T Tv _ N E I q l fun cls dd σ H ε row v I e fr z => by rw [hx] at z; exact z
end
end VL
namespace VL
open PySem PySem.Spec PyProof.Rows L2 VL
end VL
namespace VL
open PySem PySem.Spec PyProof.Rows L2 VL
inductive XC where
  | own (s : String)
  | ty (s : String)
def XC.val (K : PySem.W.Frag) : XC → Value
  | .own s => .ref (He.ga K (Str.ofString s))
  | .ty s => .type s
/-- classes that are raised, and whether a clause catches them -/
def xtab : List (String × Bool) → XTab
  | [], _ => none
  | (t, b) :: r, s => if s = t then some b else xtab r s
theorem xtab_mem : ∀ {l : List (String × Bool)} {s : String} {d : Bool}, xtab l s = some d → s ∈ l.map (·.1)
  | (t, b) :: r, s, d, h => by
    unfold xtab at h
    by_cases e : s = t
    · rw [e]; exact List.mem_cons_self
    · rw [if_neg e] at h
      exact List.mem_cons_of_mem _ (xtab_mem h)
def exOk (RL : List String) (ct : List (XC × XTab)) (kt : List (XC × (String → Bool))) (K : PySem.W.Frag) : Bool :=
  oexG K && ((RL.all fun s => oexA K (Str.ofString s)) && ((ct.all fun p => RL.all fun s => match p.2 s with | some d => decide (PySem.W.exmOne K (.ref (He.ga K (Str.ofString s))) (p.1.val K) = some d) | none => true) &&
    (kt.all fun p => RL.all fun s => decide (PySem.W.kitOne K (.ref (He.ga K (Str.ofString s))) (p.1.val K) = some (p.2 s)))))
section
variable {RL : List String} {ct : List (XC × XTab)} {kt : List (XC × (String → Bool))} {K : PySem.W.Frag}
theorem exOk_g (h : exOk RL ct kt K = true) : OexW K := oexG_ok (Bool.and_eq_true_iff.mp h).1
theorem exOk_o (h : exOk RL ct kt K = true) (s : String) (hs : s ∈ RL) : Oex K (Str.ofString s) :=
  oex_ok (exOk_g h) (List.all_eq_true.mp (Bool.and_eq_true_iff.mp (Bool.and_eq_true_iff.mp h).2).1 s hs)
theorem exOk_c (h : exOk RL ct kt K = true) {p : XC × XTab} (hp : p ∈ ct) (hn : ∀ s d, p.2 s = some d → s ∈ RL) (s : String) (d : Bool) (e : p.2 s = some d) : PySem.W.exmOne K (clsV K (.type s)) (p.1.val K) = some d := by
  have h1 := List.all_eq_true.mp (List.all_eq_true.mp (Bool.and_eq_true_iff.mp (Bool.and_eq_true_iff.mp (Bool.and_eq_true_iff.mp h).2).2).1 p hp) s (hn s d e)
  rw [e] at h1
  exact of_decide_eq_true h1
end
/-- a function that may refuse -/
def Osp {α : Type} (args : α → List D) (pre : α → Prop) (f : α → Option D) (cl : String) : VSp := fun ds Q E => ∃ a, ds = args a ∧ pre a ∧ match f a with
  | some r => Q r (args a)
  | none => E (.type cl) .non (args a)
theorem Osp.mono {α : Type} {args : α → List D} {pre : α → Prop} {f : α → Option D} {cl : String} : Mono (Osp args pre f cl) := fun ds A A' B B' hA hB ⟨a, e, p, q⟩ => ⟨a, e, p, by
  cases h : f a with
  | some r => rw [h] at q; exact hA _ _ q
  | none => rw [h] at q; exact hB _ _ _ q⟩
/-- the base's __init__ -/
theorem ini_fn {P : Program} {w : World} {K : PySem.W.Frag} {mg : Str → Option Value} {base : Heap} {params : Arguments} {body : List Stmt} {scope : Scope} {k : Nat} (hF : ∃ fd, FunD K "__init__" "JumpError.__init__" params body scope [.non] [] (fiA K) fd) (S : FnScope ["self", "row"] ["self", "row"] scope)
    (hbd : ∀ {f fd}, FunD K "__init__" "JumpError.__init__" params body scope [.non] [] f fd → ∃ ds, Vals [.non] ds ∧ Binds K fd ["self", "row"] ds)
    (hb : ∀ (cdv : Value) (A : Around) (outer : List Env) (s : Shared) (H : Hp) (E : XK), PSs (cxOf (VL.CX P w) P w K mg base ["self", "row"] "JumpError.__init__" scope (fiA K) cdv A outer s H E) body (tIni K)) : ExFn P w K mg base (k + 1) := by
  obtain ⟨fd, F⟩ := hF
  obtain ⟨ds, h1, h2⟩ := hbd F
  exact ⟨fd, ds, h1, h2, init_ok F S hb⟩
end VL
namespace VL
open PySem PySem.Spec PyProof.Rows L2 VL
theorem fzip_none : ∀ {fs : List Cs} {vs : List V} {f : Cs}, fdIx fs f = none → (fzip fs vs).lookup (toS f) = none
  | [], vs, f, _ => rfl
  | g :: fs, [], f, _ => rfl
  | g :: fs, w :: vs, f, h => by
    unfold fdIx at h
    rw [List.idxOf?_cons] at h
    show ((toS g, w) :: fzip fs vs).lookup (toS f) = none
    by_cases e : g = f
    · subst e
      simp at h
    · have e1 : (g == f) = false := by simpa using e
      rw [e1] at h
      have h2 : fdIx fs f = none := by simpa [fdIx] using h
      have e2 : (toS f == toS g) = false := by
        rw [beq_eq_false_iff_ne]
        intro z
        exact e (toS_inj z.symm)
      simp only [List.lookup, e2]
      exact fzip_none h2
theorem fzip_put : ∀ {fs : List Cs} {vs : List V} {f : Cs} {y : V}, fdIx fs f = none → fs.length = vs.length → putF (toS f) y (fzip fs vs) = fzip (fs ++ [f]) (vs ++ [y])
  | [], [], f, y, _, _ => rfl
  | [], _ :: _, _, _, _, h => by cases h
  | _ :: _, [], _, _, _, h => by cases h
  | g :: fs, w :: vs, f, y, h, hl => by
    unfold fdIx at h
    rw [List.idxOf?_cons] at h
    by_cases e : g = f
    · subst e
      simp at h
    · have e1 : (g == f) = false := by simpa using e
      rw [e1] at h
      have h2 : fdIx fs f = none := by simpa [fdIx] using h
      have e2 : ¬ toS g = toS f := fun z => e (toS_inj z)
      show putF (toS f) y ((toS g, w) :: fzip fs vs) = (toS g, w) :: fzip (fs ++ [f]) (vs ++ [y])
      unfold putF
      rw [if_neg e2, fzip_put h2 (Nat.succ.inj hl)]
section
variable {K : PySem.W.Frag} {b : Bs} {σ : L2.St} {H : Hp} {ε : Ep} {T : List D} {Tv : List V}
theorem SI.insAt (I : SI K b σ H ε T Tv) {i C : Nat} {fs : List Cs} {ds : List D} (e : ε[i]? = some (some (.ins true C fs ds))) : ∃ a dx vs, σ[i]? = some (some (.ref a)) ∧ H a = some (.ins (cA K C) dx (fzip fs vs)) := by
  obtain ⟨G, F, Ft, J⟩ := I
  obtain ⟨ov, A, B, C', hs, rfl, r, _⟩ := J.slots.focus e
  obtain ⟨v, rfl, a, dx, vs, F', rfl, ha, _, _, _⟩ := r
  exact ⟨a, dx, vs, hs, ha⟩
/-- a held thing becomes a field of an instance in a slot -/
theorem SI.fldNew {d : D} {v : V} (I : SI K b σ H ε (T ++ [d]) (Tv ++ [v])) (hl : T.length = Tv.length) {i C : Nat} {fs : List Cs} {ds : List D} {f : Cs} (e : ε[i]? = some (some (.ins true C fs ds))) (hf : fdIx fs f = none) :
    ∃ a dx vs, σ[i]? = some (some (.ref a)) ∧ H a = some (.ins (cA K C) dx (fzip fs vs)) ∧ fs.length = vs.length ∧ SI K b σ (upd H a (.ins (cA K C) dx (fzip (fs ++ [f]) (vs ++ [v])))) (ε.set i (some (.ins true C (fs ++ [f]) (ds ++ [d])))) T Tv := by
  obtain ⟨v0, v', G, B, FR, hs, at', su, r, rr, nd, fr, back⟩ := I.focus hl e (getP_nil ..)
  have e0 : v' = v0 := by cases at'; rfl
  subst e0
  obtain ⟨a, dx, vs, F', rfl, ha, rfl, hd, rl⟩ := r
  have hv := rl.len
  refine ⟨a, dx, vs, hs, ha, hd.trans hv, ?_⟩
  have nd0 : a ∉ F' ++ FR := (List.nodup_cons.mp (by simpa using nd)).1
  have keep : ∀ c, c ≠ a → upd H a (.ins (cA K C) dx (fzip (fs ++ [f]) (vs ++ [v]))) c = H c := fun c h => upd_ne h
  have J := back (upd H a (.ins (cA K C) dx (fzip (fs ++ [f]) (vs ++ [v])))) (.ins true C (fs ++ [f]) (ds ++ [d])) (a :: (F' ++ FR)) .non .non [] (fun c hc => keep c fun z => hc (by rw [z]; exact List.mem_cons_self)) ?_ ⟨rfl, rfl⟩ (.inl (by simp)) ⟨[], by simp⟩
  · exact (J.pop hl)
  · refine ⟨a, dx, vs ++ [v], F' ++ FR, rfl, upd_same, rfl, by simp [hd], ?_⟩
    refine (rl.mono Sub.refl fun c hc => keep c fun z => nd0 (by rw [← z]; exact List.mem_append_left _ hc)).append (rr.mono Sub.refl fun c hc => keep c fun z => nd0 (by rw [← z]; exact List.mem_append_right _ hc))
end
section
variable {X : Cv}
def vFld (i C : Nat) (f : Cs) (t : VTE) : VTS := fun N ε => t N.rx ε fun d ε1 => ∃ fs ds, ε1[i]? = some (some (.ins true C fs ds)) ∧ fdIx fs f = none ∧ fs.length < 1000 ∧ N.nx (ε1.set i (some (.ins true C (fs ++ [f]) (ds ++ [d]))))
theorem vs_fld {i C : Nat} {n x : Str} {f : Cs} {e : Expr} {t : VTE} {p1 p2 pos : Pos} (h : VE X e t) (hN : X.N[i]? = some n) (hv : Vis X.env.scope n) (cl : Cls X.K (cA X.K C)) (na : NoAttr X.K (cA X.K C) x) (hx : x = toS f)
    (hd : (n == ("__debug__" : Str)) = false := by decide) (hcd : (n == ("__classdict__" : Str)) = false := by decide) (hs : swapsWith e (some (.Attribute (.Name n p1) x p2)) pos.line X.env = pure false := by rfl) : VS X (.Assign [.Attribute (.Name n p1) x p2] e pos) (vFld i C f t) := by
  subst hx
  obtain ⟨t', a1, a2⟩ := h.ex
  refine ⟨fun W => sFld X.K (tVar i) (t' W) (toS f), fun W tk => ps_fld (pe_var hN hv hd hcd) (a1 W tk) hs, fun b σ H ε T Tv W N E I q l x => ?_⟩
  refine a2 b σ H ε T Tv W N.rx _ _ I q (fun d v ε1 H1 J z => ?_) x
  obtain ⟨fs, ds, e1, hf, hl, z⟩ := z
  obtain ⟨a, dx, vs, hs, ha, hlen, J2⟩ := J.fldNew I.lenT e1 hf
  refine ⟨_, hs, a, cA X.K C, dx, _, rfl, ha, cl, na, ?_, ?_⟩
  · unfold fzip
    rw [List.length_zip, List.length_map]
    omega
  · rw [fzip_put hf hlen]
    exact l.nx σ _ _ J2 z
end
/-- a method that keeps a promise over trees -/
structure Mv (P : Program) (w : World) (K : PySem.W.Frag) (mg : Str → Option Value) (base : Heap) (C : Nat) (m : Str) (k n : Nat) (vsp : VSp) : Prop where
  ex : ∃ f fd ps, Meth K (cA K C) m f ∧ Binds K fd ps [] ∧ FnOk P w K mg base (VL.CX P w) k f fd ps (Lift K n vsp)
theorem Mv.mono {P w K mg base C m j k n vsp} (F : Mv P w K mg base C m j n vsp) (h : j ≤ k) : Mv P w K mg base C m k n vsp := let ⟨f, fd, ps, a, b, d⟩ := F.ex; ⟨f, fd, ps, a, b, d.mono h⟩
section
variable {X : Cx} {k : Nat} {f C : Addr} {fd : FuncData} {ps : List Str} {sp : Sp} {E : L2.St → XK} {m : Str} {pos apos : Pos} {e o : Expr} {es : List Expr} {ta : TE} {t : TA}
theorem pe_methX {pl : Sem Bool} (he : PE X o ta) (c : Cls X.K C) (hm : Meth X.K C m f) (F : FnOk X.prog X.w X.K X.mg X.base (VL.CX X.prog X.w) k f fd ps sp) (hr : Room k X.A) (hb : Binds X.K fd ps []) (hx : ∀ σ, PassesAt (VL.CX X.prog X.w) X σ (E σ)) (ha : PA X (e :: es) t)
    (h1 : starEach (e :: es) X.env = (false, eval e X.env) :: starEach es X.env := by rfl) (h2 : (backTo pos (starEach es X.env)).any (·.1) = false := by rfl)
    (h3 : eval (.Call (.Attribute o m apos) (e :: es) [] pos) X.env = (do
      let w ← eval o X.env
      standAt apos.atName
      let (g, r) ← holding [w] (getMethod w m pl)
      callWith pos g r (backTo pos (starEach (e :: es) X.env)) (backToKw pos (keywordEach [] X.env))) := by rfl) :
    PE X (.Call (.Attribute o m apos) (e :: es) [] pos) (L2H.tMethH C m sp E ta t) := by
  refine ⟨fun pins s σ H Q I h => ?_⟩
  refine PySem.W.methodCall_KW (pl := pl) (thn (he.run pins s σ H _ I h) fun z s1 ⟨y, H1, I1, ry, a, dx, gs, ey, ea, l, q⟩ => ?_) h3
  subst ey
  obtain rfl : z = Value.ref a := ry
  refine getmeth_ok I1 ea c hm l ?_
  exact PySem.W.callWith_K (first := [.ref a]) (h₀ := X.base) I.ok.mod.kin hm.kp (thn (ha.run pos pins s1 σ H1 _ I1 q) fun us s2 ⟨vs, H2, I2, r, q2⟩ => ⟨I2.kIn, run_fnSD (us := .ref a :: us) (vs := .ref a :: vs) (dvs := []) F hr hb .nil (hx σ) I2 (.cons rfl r) (by simpa using q2)⟩) h1 h2
theorem pe_methX0 {pl : Sem Bool} (he : PE X o ta) (c : Cls X.K C) (hm : Meth X.K C m f) (F : FnOk X.prog X.w X.K X.mg X.base (VL.CX X.prog X.w) k f fd ps sp) (hr : Room k X.A) (hb : Binds X.K fd ps []) (hx : ∀ σ, PassesAt (VL.CX X.prog X.w) X σ (E σ))
    (h3 : eval (.Call (.Attribute o m apos) [] [] pos) X.env = (do
      let w ← eval o X.env
      standAt apos.atName
      let (g, r) ← holding [w] (getMethod w m pl)
      callWith pos g r (backTo pos (starEach [] X.env)) (backToKw pos (keywordEach [] X.env))) := by rfl) :
    PE X (.Call (.Attribute o m apos) [] [] pos) (L2H.tMethH C m sp E ta tNil) := by
  refine ⟨fun pins s σ H Q I h => ?_⟩
  refine PySem.W.methodCall_KW (pl := pl) (thn (he.run pins s σ H _ I h) fun z s1 ⟨y, H1, I1, ry, a, dx, gs, ey, ea, l, q⟩ => ?_) h3
  subst ey
  obtain rfl : z = Value.ref a := ry
  refine getmeth_ok I1 ea c hm l ?_
  exact PySem.W.callWith_K0 (first := [.ref a]) I1.kIn hm.kp (run_fnSD (us := [.ref a]) (vs := [.ref a]) (dvs := []) F hr hb .nil (hx σ) I1 (.cons rfl .nil) q)
end
section
variable {X : Cv}
def vMeth (i C : Nat) (m : Cs) (vsp : VSp) (rs : List (Option Nat)) (t : VTA) : VTE := fun N ε Q => (∃ fs ds, ε[i]? = some (some (.ins true C fs ds)) ∧ fdIx fs m = none) ∧ t N ε fun ds ε1 => ∃ d, ε1[i]? = some (some d) ∧
  vsp (d :: ds) (fun r ds' => ds'.length = ds.length + 1 ∧ Q r (restore (some i :: rs) ds' (ε1.set i none))) (fun cls row ds' => ds'.length = ds.length + 1 ∧ N cls row (restore (some i :: rs) ds' (ε1.set i none)))
theorem ve_meth {i C k n : Nat} {x m : Str} {mc : Cs} {p apos pos : Pos} {e : Expr} {es : List Expr} {rs : List (Option Nat)} {t : VTA} {vsp : VSp} (F : Mv X.prog X.w X.K X.mg X.base C m k n vsp) (mo : Mono vsp) (cl : Cls X.K (cA X.K C)) (hm : m = toS mc) (hr : Room k X.A) (hN : X.N[i]? = some x) (hv : Vis X.env.scope x)
    (hn : (e :: es).length + 1 = n) (ha : VA X (e :: es) rs t) (hrs : rs.length = (e :: es).length := by rfl) (hd : (x == ("__debug__" : Str)) = false := by decide) (hcd : (x == ("__classdict__" : Str)) = false := by decide)
    (h1 : starEach (e :: es) X.env = (false, eval e X.env) :: starEach es X.env := by rfl) (h2 : (backTo pos (starEach es X.env)).any (·.1) = false := by rfl) {pl : Sem Bool}
    (h3 : eval (.Call (.Attribute (.Name x p) m apos) (e :: es) [] pos) X.env = (do
      let w ← eval (.Name x p) X.env
      standAt apos.atName
      let (g, r) ← holding [w] (getMethod w m pl)
      callWith pos g r (backTo pos (starEach (e :: es) X.env)) (backToKw pos (keywordEach [] X.env))) := by rfl) :
    VE X (.Call (.Attribute (.Name x p) m apos) (e :: es) [] pos) (vMeth i C mc vsp rs t) := by
  subst hm
  obtain ⟨f, fd, ps, hm, hb, F⟩ := F.ex
  obtain ⟨u', k1, k2⟩ := ha.ex
  refine ⟨fun W => L2H.tMethH (cA X.K C) (toS mc) (Lift X.K n vsp) (WE W) (tVar i) (u' W), fun W tk => pe_methX (pe_var hN hv hd hcd) cl hm F hr hb (fun σ => passAt tk σ) (k1 W tk) h1 h2 h3, fun b σ H ε T Tv W N Q Q' I q kk xl => ?_⟩
  obtain ⟨⟨fs, ds0, e0, nf⟩, q⟩ := q
  obtain ⟨a, dx, vs0, hs, h0⟩ := I.insAt e0
  refine ⟨_, hs, a, dx, _, rfl, h0, fzip_none nf, ?_⟩
  refine k2 b σ H ε T Tv W N _ _ I q (fun ds vs ε2 H2 J l hh q2 => ?_) xl
  obtain ⟨d, e, q2⟩ := q2
  obtain ⟨v', hs', J2⟩ := J.mov e
  rw [hs] at hs'
  cases hs'
  have J3 := SI.swap (A := ds) (B := [d]) (C := []) (Av := vs) (Bv := [.ref a]) (Cv := []) (by simpa only [List.append_assoc, List.append_nil] using J2) I.lenT l rfl
  have hl : (d :: ds).length = ((V.ref a) :: vs).length := by simp [l]
  exact call_run (ds := d :: ds) (vs := .ref a :: vs) (rs := some i :: rs) I.lenT hl (by rw [← hn, ← hrs, hh.len, ← l]; rfl) (by simpa using J3) ⟨hs, hh⟩ q2 (mo (d :: ds)) kk xl
theorem ve_meth0 {i C k : Nat} {x m : Str} {mc : Cs} {p apos pos : Pos} {vsp : VSp} (F : Mv X.prog X.w X.K X.mg X.base C m k 1 vsp) (mo : Mono vsp) (cl : Cls X.K (cA X.K C)) (hm : m = toS mc) (hr : Room k X.A) (hN : X.N[i]? = some x) (hv : Vis X.env.scope x)
    (hd : (x == ("__debug__" : Str)) = false := by decide) (hcd : (x == ("__classdict__" : Str)) = false := by decide) {pl : Sem Bool}
    (h3 : eval (.Call (.Attribute (.Name x p) m apos) [] [] pos) X.env = (do
      let w ← eval (.Name x p) X.env
      standAt apos.atName
      let (g, r) ← holding [w] (getMethod w m pl)
      callWith pos g r (backTo pos (starEach [] X.env)) (backToKw pos (keywordEach [] X.env))) := by rfl) :
    VE X (.Call (.Attribute (.Name x p) m apos) [] [] pos) (vMeth i C mc vsp [] vaNil) := by
  subst hm
  obtain ⟨f, fd, ps, hm, hb, F⟩ := F.ex
  refine ⟨fun W => L2H.tMethH (cA X.K C) (toS mc) (Lift X.K 1 vsp) (WE W) (tVar i) tNil, fun W tk => pe_methX0 (pe_var hN hv hd hcd) cl hm F hr hb (fun σ => passAt tk σ) h3, fun b σ H ε T Tv W N Q Q' I q kk xl => ?_⟩
  obtain ⟨⟨fs, ds0, e0, nf⟩, d, e, q⟩ := q
  obtain ⟨a, dx, vs0, hs, h0⟩ := I.insAt e0
  refine ⟨_, hs, a, dx, _, rfl, h0, fzip_none nf, ?_⟩
  obtain ⟨v', hs', J2⟩ := I.mov e
  rw [hs] at hs'
  cases hs'
  exact call_run (ds := [d]) (vs := [.ref a]) (rs := [some i]) I.lenT rfl rfl J2 ⟨hs, trivial⟩ q (mo [d]) kk xl
def vNew (C : Nat) (vsp : VSp) (rs : List (Option Nat)) (t : VTA) : VTE := fun N ε Q => t N ε fun ds ε1 => vsp (.ins true C [] [] :: ds) (fun r ds' => r = .non ∧ ∃ o rest, ds' = o :: rest ∧ rest.length = ds.length ∧ Q o (restore rs rest ε1)) (fun _ _ _ => False)
theorem ve_new {C k n : Nat} {x : Str} {f : Addr} {fd : FuncData} {ps : List Str} {p pos : Pos} {e : Expr} {es : List Expr} {rs : List (Option Nat)} {t : VTA} {vsp : VSp} (M : L2.Mk X.K (cA X.K C) f) (hb : Binds X.K fd ps []) (F : FnOk X.prog X.w X.K X.mg X.base (VL.CX X.prog X.w) k f fd ps (Lift X.K n vsp)) (mo : Mono vsp)
    (hr : Room (k + 1) X.A) (hg : Gl X.toCx x) (hm : X.mg x = some (.ref (cA X.K C))) (hn : (e :: es).length + 1 = n) (ha : VA X (e :: es) rs t) (hrs : rs.length = (e :: es).length := by rfl)
    (hdb : (x == ("__debug__" : Str)) = false := by decide) (he : starEach (e :: es) X.env = (false, eval e X.env) :: starEach es X.env := by rfl) (hpl : (backTo pos (starEach es X.env)).any (·.1) = false := by rfl) :
    VE X (.Call (.Name x p) (e :: es) [] pos) (vNew C vsp rs t) := by
  obtain ⟨u', k1, k2⟩ := ha.ex
  refine ⟨fun W => tMake (cA X.K C) (Lift X.K n vsp) [] (fun _ _ _ => False) (u' W), fun W tk => pe_make M F hr hg hm hb .nil (fun _ _ _ _ _ _ _ h => by obtain ⟨_, _, _, _, _, _, _, _, _, _, _, _, z⟩ := h; exact z.elim) (k1 W tk) hdb he hpl, fun b σ H ε T Tv W N Q Q' I q kk xl => ?_⟩
  refine k2 b σ H ε T Tv W N _ _ I q (fun ds vs ε1 H1 J l hh z => ?_) xl
  intro y dx ny nd ne
  have Hy : (upd H1 dx (.own y)) y = none := by rw [upd_ne (Ne.symm ne)]; exact ny
  have J1 := J.grow (Sub.laid (o := .own y) nd)
  have J2 := SI.laid (T := T ++ ds) (Tv := Tv ++ vs) (ds := []) (vs := []) (d := .ins true C [] []) (by simpa using J1) J.lenT Hy (.ins (cA X.K C) dx []) fun G H' F e r => ⟨y, dx, [], F, rfl, e, rfl, rfl, r⟩
  have J3 := SI.swap (A := ds) (B := [.ins true C [] []]) (C := []) (Av := vs) (Bv := [.ref y]) (Cv := []) (by simpa only [List.append_assoc, List.append_nil] using J2) I.lenT l rfl
  have J4 : SI X.K b.1 σ (upd (upd H1 dx (.own y)) y (.ins (cA X.K C) dx [])) ε1 (T ++ (.ins true C [] [] :: ds)) (Tv ++ (.ref y :: vs)) := by simpa using J3
  obtain ⟨G, F', K0, out, fr⟩ := J4.enter I.lenT
  have hlen : (D.ins true C [] [] :: ds).length = n := by rw [← hn, ← hrs, hh.len, ← l]; rfl
  refine ⟨G, F', .ins true C [] [] :: ds, by simpa using K0, hlen, mo _ _ _ _ _ (fun r ds' z2 v H' I' => ?_) (fun _ _ _ z2 => z2.elim) z⟩
  obtain ⟨rfl, o, rest, rfl, hl2, z2⟩ := z2
  have I2 := out H' _ _ (by simpa using I')
  have hl3 : rest.length = vs.length := hl2.trans l
  have hT : (T ++ (o :: rest)).length = (Tv ++ (V.ref y :: vs)).length := by simp [I.lenT, hl3]
  have I3 : SI X.K b.1 σ H' ε1 ((T ++ (o :: rest)) ++ [.non]) ((Tv ++ (V.ref y :: vs)) ++ [v]) := by simpa using I2
  obtain ⟨_, _, _, ⟨rv, _⟩⟩ := I3.last hT
  refine ⟨rv, ?_⟩
  have I4 := I3.pop hT
  have I5 := SI.swap (A := [o]) (B := rest) (C := []) (Av := [.ref y]) (Bv := vs) (Cv := []) (by simpa using I4) I.lenT rfl hl3
  have I6 := SI.restore I.lenT hh hl3 (by simpa using I5)
  exact kk o (.ref y) _ H' I6 z2
end
end VL
namespace VL
open PySem PySem.Spec PyProof.Rows L2 VL
section
variable {body suite : List Stmt} {b₀ : Stmt} {X : Cx} {x : Str} {c : Value} {np pos pos' : Pos} {Wout : WX} {tb : WX → TS} {ts : Addr → Value → Option Addr → TS}
theorem ps_try_elseN {els : List Stmt} {u : TS} (ho : PSs X els u) (hs : X.stack = X.env :: X.outer) (hf : X.env.frame = some X.env.locals) (hc : Names X x c) (tk : Takes X Wout)
    (hb : ∀ (Wq : WX) (pn : List (Addr × Obj)) (xq : Value → Shared → Prop), Takes (X.tr pn xq) Wq → PassesOwn (model X.prog X.w) X.A X.env xq → PSs (X.tr pn xq) body (tb Wq))
    (hsu : ∀ (a : Addr) (oe : Obj) (cls : Value) (d : Option Addr) (pn : List (Addr × Obj)), L2N.Zn cls d oe → (∃ vs, oe.data = .fields vs) → PSs (X.suite a ((a, oe) :: pn)) (b₀ :: suite) (ts a cls d)) :
    PS X (.Try body [.ExceptHandler (some (.Name x np)) none (b₀ :: suite) pos'] els [] pos) (fun Dn σ0 H => tb (wOnly X.K c ts Wout Dn) { Dn with nx := u Dn } σ0 H) := by
  refine ⟨fun pp s σ0 H Dn I h => ?_⟩
  have okx := I.ok
  have hfq : X.A.frames = some (X.env :: X.outer) := by rw [okx.frames, hs]
  refine wpAny_Try_except ?_
  refine wpAny_mono ((hb (wOnly X.K c ts Wout Dn) (X.pn ++ pp) (fun e s₁ => wpAny (model X.prog X.w) X.A (noteFrame e X.env) (fun _ s₂ => wpAny (model X.prog X.w) X.A (setFlight e none) (fun _ s₃ =>
    wpAny (model X.prog X.w) X.A (handleBy e X.env [.ExceptHandler (some (.Name x np)) none (b₀ :: suite) pos']) (SP X pp Dn) X.xe s₃) X.xe s₂) X.xe s₁) (fun u s' xx => ?_) PassesOwn.looking).run [] s σ0 H { Dn with nx := u Dn } (I.toTry _) h) (fun f s1 hq => ?_) (fun e s1 hev => hev)
  · -- the catch
    obtain ⟨a, B, sJ, pinz, σa, Ha, cls, d, rfl, M0, nbx, upx, air1, nax, osx, agx, b, hbx, hye, hnx⟩ := xx
    have M1 : Inv X pp σa Ha sJ := M0.ofTry okx
    have air2 : Sky B (X.env :: X.outer) a (L2N.Zn cls d) X.env.locals s'.heap := by rw [← hs]; exact air1
    show wpAny (model X.prog X.w) X.A (noteFrame (.ref a) X.env) _ _ _
    refine L2N.Sky.land L2N.Zn.steady hfq hf air2 fun hA f3l u3p => ?_
    have M3 : Inv X pp σa Ha { s' with heap := hA } := M1.landed nbx f3l.1 (upx.trans u3p) osx agx
    obtain ⟨o3e, v3s, g3e, g3z, g3d⟩ := f3l.there
    have notIn : ∀ {h : Heap} {o : Obj} {vs : Array Value}, h.FunFrames B (X.env :: X.outer) → h.get? a = some o → o.data = .fields vs → a ∉ frs (X.env :: X.outer) := fun {h o vs} ffx e ddx hmm => by
      obtain ⟨_, o', e', hnf⟩ := ffx.mem hmm
      rw [e] at e'; cases e'
      exact hnf _ ddx
    have nfx := notIn f3l.2.2.1 g3e g3d
    have nLo : a ≠ X.env.locals := fun z => nfx (List.mem_filterMap.mpr ⟨X.env, List.mem_cons_self, by rw [hf, z]⟩)
    have nFs : a ∉ X.fs := fun hmm => by
      obtain ⟨e, hev, q⟩ := List.mem_filterMap.mp hmm
      exact nfx (List.mem_filterMap.mpr ⟨e, List.mem_cons_of_mem _ hev, q⟩)
    have R3 := M3.suite g3e g3d nax nLo nFs
    refine wpAny_handleBy_cons (codeAny_handlers_test ?_) (by intro z; cases z)
    have lT : PySem.W.Looks (model X.prog X.w) hA (typeOf (.ref a)) cls := fun A1 Q1 E1 s1 k q => wpAny_typeOf_ref (k _ _ g3e) (by rw [g3z.1]; exact q)
    have lM := PySem.W.exm_one (M := model X.prog X.w) (M3.kIn) lT hbx
    have tst : ∀ {Q : Value → Shared → Prop} {E : Value → Shared → Prop}, Q c { s' with heap := hA } → wpAny (model X.prog X.w) (X.A.mark (some (.ref a))) (eval (.Name x np) X.env) Q E { s' with heap := hA } := fun {Q E} q => by
      obtain ⟨hgx, hdq, hmm | ⟨hmm, hvx, hnw⟩⟩ := hc
      · exact ld_glob (X := X.suite a ((a, o3e) :: (X.pn ++ pp))) R3 hgx hmm q hdq
      · exact ld_blt (X := X.suite a ((a, o3e) :: (X.pn ++ pp))) R3 hgx hmm hvx q hnw hdq
    refine tst (lM.here ?_)
    cases b with
    | true =>
      refine (codeAny_handlers_suite ?_)
      refine HandSPX.lands_againZ f3l fun hB f4l u4p => ?_
      have M4 : Inv X pp σa Ha { s' with heap := hB } := M1.landed nbx f4l.1 ((upx.trans u3p).trans u4p) osx agx
      obtain ⟨o4e, v4s, g4e, g4z, g4d⟩ := f4l.there
      have R4 := M4.suite g4e g4d nax nLo nFs
      refine wpAny_mono ((hsu a o4e cls d (X.pn ++ pp) g4z ⟨_, g4d⟩).run [] _ _ Ha _ R4 (hye rfl a nax)) (fun f s6 hq => ?_) (fun _ _ z => False.elim z)
      cases f with
      | next =>
        obtain ⟨σc, Hc, R6, qc⟩ := hq
        exact ⟨_, _, R6.unsuite okx, qc⟩
      | brk =>
        obtain ⟨σc, Hc, R6, qc⟩ := hq
        exact ⟨_, _, R6.unsuite okx, qc⟩
      | cont =>
        obtain ⟨σc, Hc, R6, qc⟩ := hq
        exact ⟨_, _, R6.unsuite okx, qc⟩
      | ret u =>
        obtain ⟨vc, σc, Hc, R6, rc6, qc⟩ := hq
        exact ⟨_, _, _, R6.unsuite okx, rc6, qc⟩
    | false =>
      show wpAny _ X.A (handleBy (Value.ref a) X.env []) _ _ _
      refine wpAny_handleBy_nil ?_
      obtain ⟨ka, kb, kc, oe, vs, Tq, oTq, tsq, hev, hz, hdv, hfi, hr⟩ := id f3l
      unfold PySem.passOn
      refine wpAny_bind (wpAny_field hev hdv hfi ?_)
      rw [if_neg (show ¬ ((Value.ref Tq == Value.none) = true) from by simp)]
      have fnn : wpAny (model X.prog X.w) X.A (setFlight (.ref a) X.env.frame) (fun _ s4x => wpAny (model X.prog X.w) X.A (throw (.ref a) : Sem Flow) (SP X pp Dn) X.xe s4x) X.xe { s' with heap := hA } := by
        rw [hf]
        refine HandSPX.setFlight_upZ f3l fun hB hh4x u4p => wpAny_throw (tk _ _ ?_)
        exact ⟨a, B, sJ, pp, σa, Ha, cls, d, rfl, M1, nbx, (upx.trans u3p).trans u4p, .inr (.inr (by rw [hs]; exact hh4x)), nax, osx, agx, hnx rfl⟩
      first
        | exact wpAny_bind (wpAny_pure (wpAny_bind fnn))
        | exact wpAny_bind fnn
  · cases f with
    | next =>
      obtain ⟨σa, Ha, M0, q⟩ := hq
      exact ho.run pp s1 σa Ha Dn (M0.ofTry okx) q
    | brk =>
      obtain ⟨σa, Ha, M0, q⟩ := hq
      exact ⟨σa, Ha, M0.ofTry okx, q⟩
    | cont =>
      obtain ⟨σa, Ha, M0, q⟩ := hq
      exact ⟨σa, Ha, M0.ofTry okx, q⟩
    | ret u =>
      obtain ⟨v, σa, Ha, M0, r, q⟩ := hq
      exact ⟨v, σa, Ha, M0.ofTry okx, r, q⟩
end
end VL
namespace VL
open PySem PySem.Spec PyProof.Rows L2 VL
section
variable {K : PySem.W.Frag} {b : Bs} {σ : L2.St} {H : Hp} {ε : Ep} {T : List D} {Tv : List V}
theorem SIx.newOwn {G F Ft} (J : SIx K b G F Ft σ H ε T Tv) {l : Addr} (n : H l = none) (o : HO) {d : D} (r : ∀ H', H' l = some o → Sub H H' → Rp K G H' d (.ref l) [l]) : SIx K b G F (Ft ++ [l]) σ (upd H l o) ε (T ++ [d]) (Tv ++ [.ref l]) := by
  have sg : Sub H (upd H l o) := Sub.laid n
  have J2 := J.grow sg
  have nl : l ∉ F ++ Ft := J.ne n
  refine ⟨J2.s0, J2.sub, J2.slots, J2.temps.append (RpL.one.mpr (r _ upd_same sg)), ?_, fun a z => ?_, fun a z => ?_, J2.gn, J2.keep, J2.kept⟩
  · rw [← List.append_assoc]
    refine List.nodup_append.mpr ⟨J.nd, by simp, fun a ha c hc e => ?_⟩
    rw [List.mem_singleton.mp hc] at e
    exact nl (e ▸ ha)
  · rw [← List.append_assoc] at z
    rcases List.mem_append.mp z with z | z
    · exact J.fr a z
    · rw [List.mem_singleton.mp z]; exact J.gne n
  · rw [← List.append_assoc] at z
    rcases List.mem_append.mp z with z | z
    · exact J.own a z
    · rw [List.mem_singleton.mp z]; exact J.h0 n
/-- a field of an instance in a slot -/
theorem SI.fldL (I : SI K b σ H ε T Tv) {i C j : Nat} {fs : List Cs} {ds xs : List D} {f : Cs} (e : ε[i]? = some (some (.ins true C fs ds))) (hf : fdIx fs f = some j) (hd : ds[j]? = some (.lst true xs)) (fz : isFzL xs = true) :
    ∃ a dx vs p us, σ[i]? = some (some (.ref a)) ∧ H a = some (.ins (cA K C) dx (fzip fs vs)) ∧ (fzip fs vs).lookup (toS f) = some (.ref p) ∧ H p = some (.lst us) ∧ ∀ l, H l = none → SI K b σ (upd H l (.lst us)) ε (T ++ [.lst true xs]) (Tv ++ [.ref l]) := by
  obtain ⟨G, F, Ft, J⟩ := I
  obtain ⟨ov, A, B, C', hs, rfl, r, _⟩ := J.slots.focus e
  obtain ⟨v, rfl, a, dx, vs, F', rfl, ha, rfl, hl, rl⟩ := r
  have hv := rl.len
  obtain ⟨w, A2, B2, C2, hw, rfl, rw2, _⟩ := rl.focus hd
  obtain ⟨p, us, F3, rfl, hp, rfl, ru⟩ := rw2
  have := ru.fz fz
  subst this
  refine ⟨a, dx, vs, p, us, hs, ha, fzip_look hf hw (hl.trans hv), hp, fun l n => ⟨G, _, _, J.newOwn n (.lst us) fun H' e2 sg => ⟨l, us, [], rfl, e2, rfl, ru.mono Sub.refl fun _ z => nomatch z⟩⟩⟩
theorem SI.fldK (I : SI K b σ H ε T Tv) {i C j : Nat} {fs : List Cs} {ds xs : List D} {ks : List Kc} {f : Cs} (e : ε[i]? = some (some (.ins true C fs ds))) (hf : fdIx fs f = some j) (hd : ds[j]? = some (.dK true ks xs)) (fz : isFzL xs = true) :
    ∃ a dx vs p us, σ[i]? = some (some (.ref a)) ∧ H a = some (.ins (cA K C) dx (fzip fs vs)) ∧ (fzip fs vs).lookup (toS f) = some (.ref p) ∧ H p = some (.dK (kzip ks us)) ∧ ∀ l, H l = none → SI K b σ (upd H l (.dK (kzip ks us))) ε (T ++ [.dK true ks xs]) (Tv ++ [.ref l]) := by
  obtain ⟨G, F, Ft, J⟩ := I
  obtain ⟨ov, A, B, C', hs, rfl, r, _⟩ := J.slots.focus e
  obtain ⟨v, rfl, a, dx, vs, F', rfl, ha, rfl, hl, rl⟩ := r
  have hv := rl.len
  obtain ⟨w, A2, B2, C2, hw, rfl, rw2, _⟩ := rl.focus hd
  obtain ⟨p, us, F3, rfl, hp, rfl, hk, nd, ru⟩ := rw2
  have := ru.fz fz
  subst this
  refine ⟨a, dx, vs, p, us, hs, ha, fzip_look hf hw (hl.trans hv), hp, fun l n => ⟨G, _, _, J.newOwn n (.dK (kzip ks us)) fun H' e2 sg => ⟨l, us, [], rfl, e2, rfl, hk, nd, ru.mono Sub.refl fun _ z => nomatch z⟩⟩⟩
end
section
variable {X : Cv} {i C : Nat} {n x : Str} {f : Cs} {p p1 p2 pos : Pos}
/-- list(self.f) -/
def vListF (i C : Nat) (f : Cs) : VTE := fun _ ε Q => ∃ fs ds j xs, ε[i]? = some (some (.ins true C fs ds)) ∧ fdIx fs f = some j ∧ ds[j]? = some (.lst true xs) ∧ isFzL xs = true ∧ Q (.lst true xs) ε
theorem ve_listF (hN : X.N[i]? = some n) (hv : Vis X.env.scope n) (cl : Cls X.K (cA X.K C)) (na : NoAttr X.K (cA X.K C) x) (hx : x = toS f) (hg : Gl X.toCx "list") (hm : X.mg "list" = none)
    (hd : (n == ("__debug__" : Str)) = false := by decide) (hcd : (n == ("__classdict__" : Str)) = false := by decide) (hb : attributeBase (.Name n p1) x X.env (eval (.Name n p1) X.env) = eval (.Name n p1) X.env := by rfl)
    (h1 : starEach [.Attribute (.Name n p1) x p2] X.env = (false, eval (.Attribute (.Name n p1) x p2) X.env) :: starEach [] X.env := by rfl) : VE X (.Call (.Name "list" p) [.Attribute (.Name n p1) x p2] [] pos) (vListF i C f) := by
  subst hx
  refine ⟨fun W => tCB _ (tCons (tFld X.K (tVar i) (toS f)) tNil), fun W tk => pe_callTy call_list_of hg hm rfl (pa_cons (pe_fld (pe_var hN hv hd hcd) hb) pa_nil h1) (by decide) (by decide) h1 rfl, fun b σ H ε T Tv W N Q Q' I q k xl => ?_⟩
  obtain ⟨fs, ds, j, xs, e, hf, hj, fz, q⟩ := q
  obtain ⟨a, dx, vs, p, us, hs, ha, hlk, hp, J⟩ := I.fldL e hf hj fz
  exact ⟨_, hs, a, cA X.K C, dx, _, _, rfl, ha, cl, na, hlk, p, us, rfl, .inl (.inl (.inl hp)), fun l hl => k _ _ ε _ (J l hl) q⟩
def vDictF (i C : Nat) (f : Cs) : VTE := fun _ ε Q => ∃ fs ds j ks xs, ε[i]? = some (some (.ins true C fs ds)) ∧ fdIx fs f = some j ∧ ds[j]? = some (.dK true ks xs) ∧ isFzL xs = true ∧ Q (.dK true ks xs) ε
theorem ve_dictF (hN : X.N[i]? = some n) (hv : Vis X.env.scope n) (cl : Cls X.K (cA X.K C)) (na : NoAttr X.K (cA X.K C) x) (hx : x = toS f) (hg : Gl X.toCx "dict") (hm : X.mg "dict" = none)
    (hd : (n == ("__debug__" : Str)) = false := by decide) (hcd : (n == ("__classdict__" : Str)) = false := by decide) (hb : attributeBase (.Name n p1) x X.env (eval (.Name n p1) X.env) = eval (.Name n p1) X.env := by rfl)
    (h1 : starEach [.Attribute (.Name n p1) x p2] X.env = (false, eval (.Attribute (.Name n p1) x p2) X.env) :: starEach [] X.env := by rfl) : VE X (.Call (.Name "dict" p) [.Attribute (.Name n p1) x p2] [] pos) (vDictF i C f) := by
  subst hx
  refine ⟨fun W => tCB _ (tCons (tFld X.K (tVar i) (toS f)) tNil), fun W tk => pe_callTy call_dictD hg hm rfl (pa_cons (pe_fld (pe_var hN hv hd hcd) hb) pa_nil h1) (by decide) (by decide) h1 rfl, fun b σ H ε T Tv W N Q Q' I q k xl => ?_⟩
  obtain ⟨fs, ds, j, ks, xs, e, hf, hj, fz, q⟩ := q
  obtain ⟨a, dx, vs, p, us, hs, ha, hlk, hp, J⟩ := I.fldK e hf hj fz
  exact ⟨_, hs, a, cA X.K C, dx, _, _, rfl, ha, cl, na, hlk, p, _, rfl, .inl hp, fun l hl => k _ _ ε _ (J l hl) q⟩
/-- a view's field -/
def wFld (C : Nat) (f : Cs) (t : VTV) : VTV := fun ε Q => t ε fun d => ∃ fs ds j y, d = .ins false C fs ds ∧ fdIx fs f = some j ∧ ds[j]? = some y ∧ Q y
theorem wv_fld {e : Expr} {t : VTV} (h : VV X e t) (cl : Cls X.K (cA X.K C)) (na : NoAttr X.K (cA X.K C) x) (hx : x = toS f) (hb : attributeBase e x X.env (eval e X.env) = eval e X.env := by rfl) : VV X (.Attribute e x pos) (wFld C f t) := by
  subst hx
  obtain ⟨t', h1, h2⟩ := h.ex
  refine ⟨fun W => tFld X.K (t' W) (toS f), fun W tk => pe_fld (h1 W tk) hb, fun b σ H ε T Tv W Q Q' I q k => ?_⟩
  refine h2 b σ H ε T Tv W _ _ I q fun d v H1 s1 r1 z => ?_
  obtain ⟨fs, ds, j, y, rfl, hf, hj, z⟩ := z
  obtain ⟨a, dx, vs, rfl, ha, _, hl, rl⟩ := r1
  obtain ⟨w, hw, rw2⟩ := rl.get hj
  exact ⟨a, cA X.K C, dx, _, w, rfl, ha, cl, na, fzip_look hf hw (hl.trans rl.len), k y w H1 s1 rw2 z⟩
/-- a view that is plain, quietly -/
theorem vq_view {e : Expr} {t : VTV} (h : VV X e t) : VQ X e (vView t) := by
  obtain ⟨t', h1, h2⟩ := h.ex
  refine ⟨t', h1, fun b σ H ε T Tv W N Q Q' I q k x => ?_⟩
  refine h2 b σ H ε T Tv W _ _ I q fun d v H1 s1 r1 z => ?_
  refine k d v ε H1 s1 ((I.grow s1).push fun G => ?_) z.2
  obtain ⟨z, _⟩ := z
  cases d <;> first | (exfalso; revert z; simp [flatD]; done) | exact r1
/-- a method asked of a view -/
def wMet (C : Nat) (m : Cs) (vsp : VSp) (t : VTV) (u : VTVs) : VTV := fun ε Q => t ε fun d => (∃ fs ds, d = .ins false C fs ds ∧ fdIx fs m = none) ∧ u ε fun ds => vsp (d :: ds) (fun r _ => Q (frz r)) (fun _ _ _ => False)
theorem wv_met {k nn : Nat} {o e : Expr} {es : List Expr} {m : Str} {mc : Cs} {apos : Pos} {t : VTV} {u : VTVs} {vsp : VSp} (F : Mv X.prog X.w X.K X.mg X.base C m k nn vsp) (mo : Mono vsp) (cl : Cls X.K (cA X.K C)) (hm : m = toS mc) (hr : Room k X.A) (ho : VV X o t) (hn : (e :: es).length + 1 = nn) (ha : VVs X (e :: es) u)
    (h1 : starEach (e :: es) X.env = (false, eval e X.env) :: starEach es X.env := by rfl) (h2 : (backTo pos (starEach es X.env)).any (·.1) = false := by rfl) {pl : Sem Bool}
    (h3 : eval (.Call (.Attribute o m apos) (e :: es) [] pos) X.env = (do
      let w ← eval o X.env
      standAt apos.atName
      let (g, r) ← holding [w] (getMethod w m pl)
      callWith pos g r (backTo pos (starEach (e :: es) X.env)) (backToKw pos (keywordEach [] X.env))) := by rfl) :
    VV X (.Call (.Attribute o m apos) (e :: es) [] pos) (wMet C mc vsp t u) := by
  subst hm
  obtain ⟨f, fd, ps, hm, hb, F⟩ := F.ex
  obtain ⟨t', o1, o2⟩ := ho.ex
  obtain ⟨u', a1, a2⟩ := ha.ex
  refine ⟨fun W => L2H.tMethH (cA X.K C) (toS mc) (Lift X.K nn vsp) (WE W) (t' W) (u' W), fun W tk => pe_methX (o1 W tk) cl hm F hr hb (fun σ => passAt tk σ) (a1 W tk) h1 h2 h3, fun b σ H ε T Tv W Q Q' I q kk => ?_⟩
  refine o2 b σ H ε T Tv W _ _ I q fun d v H1 s1 rd z => ?_
  obtain ⟨⟨fs, ds0, rfl, nf⟩, z⟩ := z
  obtain ⟨a, dx, vs0, rfl, h0, _, hl0, rl0⟩ := id rd
  refine ⟨a, dx, _, rfl, h0, fzip_none nf, ?_⟩
  refine a2 b σ H1 ε T Tv W _ _ (I.grow s1) z fun ds vs H2 s2 rr l z => ?_
  have rr2 : RpL X.K H2 H2 (.ins false C fs ds0 :: ds) (.ref a :: vs) [] := by
    have := (RpL.one.mpr (rd.up s2)).append rr
    simpa using this
  refine ⟨H2, [], .ins false C fs ds0 :: ds, si_view rr2, by rw [← hn, List.length_cons, l], mo _ _ _ _ _ (fun r ds' q' v H' I' => ?_) (fun _ _ _ z => z.elim) z⟩
  have l2 : ds'.length = (V.ref a :: vs).length := by
    have := I'.lenT
    simpa using this
  obtain ⟨G, F, su, rv⟩ := I'.last l2
  have s3 : Sub H2 H' := by
    obtain ⟨G2, F2, Ft2, J2⟩ := I'
    exact fun p o e => J2.keep p o e (fun z => nomatch z)
  exact kk (frz r) v H' (s1.trans (s2.trans s3)) (rv.view su) q'
end
end VL
namespace VL
open PySem PySem.Spec PyProof.Rows L2 VL
def vTryE (tab : XTab) (tb ts te : VTS) : VTS := fun N ε => tb { nx := fun ε1 => te N ε1, rt := N.rt, bk := N.bk, ct := N.ct, rx := fun cls row ε' => ∃ s c, cls = .type s ∧ tab s = some c ∧
  ((c = true ∧ isFz row = true ∧ ts { nx := N.nx, rt := N.rt, bk := N.bk, ct := N.ct, rx := fun _ _ _ => False } ε') ∨ (c = false ∧ N.rx cls row ε')) } ε
section
variable {X : Cv} {x n : Str} {c : Value} {tab : XTab} {body suite els : List Stmt} {b₀ : Stmt} {np pos pos' : Pos} {tb te : VTS}
theorem Caught.hot {s : String} {a dd : Addr} {oe : Obj} {pn : List (Addr × Obj)} (C : Caught X.K s dd oe) : L2H.HotC (suX X a oe pn).toCx := by
  obtain ⟨vs, hv⟩ := C.f
  exact ⟨(a, oe), ⟨rfl, vs, hv, C.z.2.2 vs hv⟩, List.mem_cons_self⟩
theorem vs_tryE {ts : VTS} (he : VSs X els te) (hs : X.stack = X.env :: X.outer) (hf : X.env.frame = some X.env.locals) (hc : Names X.toCx x c)
    (ht : ∀ s d, tab s = some d → PySem.W.exmOne X.K (clsV X.K (.type s)) c = some d)
    (hb : ∀ pn xe, PassesOwn (model X.prog X.w) X.A X.env xe → VSs (trX X pn xe) body tb)
    (hsu : ∀ a oe pn, L2H.HotC (suX X a oe pn).toCx → VSs (suX X a oe pn) (b₀ :: suite) ts) :
    VS X (.Try body [.ExceptHandler (some (.Name x np)) none (b₀ :: suite) pos'] els [] pos) (vTryE tab tb ts te) := by
  obtain ⟨u, u1, u2⟩ := try_body hb
  obtain ⟨v, v1, v2⟩ := try_suite (tab := tab) (ts := fun _ _ _ => ts) fun a _ _ oe pn _ C => hsu a oe pn C.hot
  obtain ⟨e', e1, e2⟩ := he.ex
  refine ⟨fun W => fun D σ H => u (wOnly X.K c v W D) { D with nx := e' W D } σ H, fun W tk => ps_try_elseN (e1 W tk) hs hf hc tk (fun W pn xe tk hp => u1 W pn xe tk hp) v1, fun b σ H ε T Tv W N E I q l x => ?_⟩
  refine u2 b σ H ε T Tv _ _ { E with nx := e' W E } I q ⟨fun σ1 H1 ε1 J z => e2 b σ1 H1 ε1 T Tv W N E J z l x, l.rt, l.bk, l.ct⟩ ?_
  intro cls dd σ1 H1 ε1 row w J e fr z
  obtain ⟨s, d, rfl, et, z⟩ := z
  refine ⟨d, ht s d et, fun hd a na => ?_, fun hd => ?_⟩
  · rcases z with ⟨_, fz, z⟩ | ⟨e2, _⟩
    · exact v2 b _ _ _ T Tv _ _ a dd s (by rw [et]; rfl) (J.drop I.lenT) z ⟨l.nx, l.rt, l.bk, l.ct⟩ rfl
    · rw [hd] at e2; cases e2
  · rcases z with ⟨e2, _⟩ | ⟨_, z⟩
    · rw [hd] at e2; cases e2
    · exact x (.type s) dd σ1 H1 ε1 row w J e fr z
end
structure Mh (P : Program) (w : World) (K : PySem.W.Frag) (mg : Str → Option Value) (base : Heap) (C : Nat) (m : Str) (k n : Nat) (vsp : VSp) : Prop where
  ex : ∃ f fd ps, Meth K (cA K C) m f ∧ Binds K fd ps [] ∧ L2H.FnH P w K mg base (VL.CX P w) k f fd ps (Lift K n vsp)
section
variable {P : Program} {w : World} {K : PySem.W.Frag} {mg : Str → Option Value} {base : Heap} {x qual : Str} {params : Arguments} {body : List Stmt} {scope : Scope} {dvs : List V} {kws : List (Str × V)} {f : Addr} {fd : FuncData}
abbrev bodyH (P : Program) (w : World) (K : PySem.W.Frag) (mg : Str → Option Value) (base : Heap) (N : List Str) (κ : List Bool) (qual : Str) (scope : Scope) (f : Addr) (cdv : Value) (A : Around) (outer : List Env) (s : Shared) (H : Hp) (E : XK) (p : Addr × Obj) : Cv :=
  { L2H.cxH (VL.CX P w) P w K mg base N qual scope f cdv A outer s H E p with κ := κ }
theorem fn_okH {N ps : List Str} {κ : List Bool} {k n : Nat} {vsp : VSp} {t : VTS} (F : FunD K x qual params body scope dvs kws f fd) (S : FnScope N ps scope) (hn : ps.length = n) (hN : n ≤ N.length)
    (hbody : ∀ (cdv : Value) (A : Around) (outer : List Env) (s : Shared) (H : Hp) (E : XK) (p : Addr × Obj), L2H.RoomH k (A.deeper (envOfC qual scope s.heap.objs.size f cdv)) → VSs (bodyH P w K mg base N κ qual scope f cdv A outer s H E p) body t)
    (hm : Mono vsp)
    (hsp : ∀ ds Q Ex, ds.length = n → vsp ds Q Ex → t { nx := fun ε => n ≤ ε.length ∧ Q .non (finalL κ ds ε), rt := fun r ε => n ≤ ε.length ∧ Q r (finalL κ ds ε), rx := fun cls row ε => n ≤ ε.length ∧ Ex cls row (finalL κ ds ε) } (startE N.length ds)) :
    L2H.FnH P w K mg base (VL.CX P w) (k + 1) f fd ps (Lift K n vsp) := by
  obtain ⟨oc, od, dV, kV, doc, pm, an, cdv, ct, osl, rfl, lk, hcd, _, _⟩ := F.ex
  refine L2H.fn_ofH lk hcd S (fun vs H Q E h => by rw [h.len, hn]) fun A outer s H vs Q E p _ hr h => ?_
  obtain ⟨G, F0, ds, J, l, q⟩ := h
  obtain ⟨t', h1, h2⟩ := (hbody cdv A outer s H E p hr).ex
  refine ⟨t' (fun cls d _ H => E cls d H), h1 _ (takes_of rfl rfl rfl rfl), ?_⟩
  have hv : vs.length = n := by rw [← J.lenT, l]
  have I0 : SI K { callB H G F0 with kv := keptV κ vs } (L2.start N vs) H (startE N.length ds) [] [] := by
    have hs : RpS K G H (startE N.length ds) (L2.start N vs) F0 := by
      unfold startE L2.start
      rw [J.lenT]
      exact RpS.start _ J.temps
    refine ⟨G, F0, [], Sub.refl, J.sub, hs, ⟨rfl, rfl⟩, by simpa using J.nd, fun a z => J.fr a (by simpa using z), fun a z => J.own a (by simpa using z), J.gn, J.keep, fun j v e => ?_⟩
    obtain ⟨_, e2⟩ := keptV_get e
    unfold L2.start
    have hj := (List.getElem?_eq_some_iff.mp e2).1
    rw [List.getElem?_append_left (by simpa using hj), List.getElem?_map, e2]
    rfl
  refine h2 ⟨_, fun i u e => (keptV_get e).1⟩ _ H _ [] [] _ _ _ I0 (hsp ds _ _ l q) ⟨fun σ H1 ε J1 z => ?_, fun σ H1 ε d v J1 z => ?_, fun _ _ _ _ z => z.elim, fun _ _ _ _ z => z.elim⟩ fun cls dd σ H1 ε row v J1 e n z => ?_
  · exact z.2 _ H1 (SI.leave J (J1.push (d := .non) (v := .non) fun _ => ⟨rfl, rfl⟩) (by rw [l]; exact z.1))
  · exact z.2 v H1 (SI.leave J J1 (by rw [l]; exact z.1))
  · exact z.2 dd v H1 (SI.leave J J1 (by rw [l]; exact z.1)) e n
end
section
variable {X : Cv}
theorem ve_methH {i C k n : Nat} {x m : Str} {mc : Cs} {p apos pos : Pos} {e : Expr} {es : List Expr} {rs : List (Option Nat)} {t : VTA} {vsp : VSp} (F : Mh X.prog X.w X.K X.mg X.base C m k n vsp) (mo : Mono vsp) (cl : Cls X.K (cA X.K C)) (hm : m = toS mc) (hr : L2H.RoomH k X.A) (hc : L2H.HotC X.toCx) (hN : X.N[i]? = some x) (hv : Vis X.env.scope x)
    (hn : (e :: es).length + 1 = n) (ha : VA X (e :: es) rs t) (hrs : rs.length = (e :: es).length := by rfl) (hd : (x == ("__debug__" : Str)) = false := by decide) (hcd : (x == ("__classdict__" : Str)) = false := by decide)
    (h1 : starEach (e :: es) X.env = (false, eval e X.env) :: starEach es X.env := by rfl) (h2 : (backTo pos (starEach es X.env)).any (·.1) = false := by rfl) {pl : Sem Bool}
    (h3 : eval (.Call (.Attribute (.Name x p) m apos) (e :: es) [] pos) X.env = (do
      let ov ← eval (.Name x p) X.env
      standAt apos.atName
      let (f, first) ← holding [ov] (getMethod ov m pl)
      callWith pos f first (backTo pos (starEach (e :: es) X.env)) (backToKw pos (keywordEach [] X.env))) := by rfl) :
    VE X (.Call (.Attribute (.Name x p) m apos) (e :: es) [] pos) (vMeth i C mc vsp rs t) := by
  subst hm
  obtain ⟨f, fd, ps, hm, hb, F⟩ := F.ex
  obtain ⟨u', k1, k2⟩ := ha.ex
  refine ⟨fun W => L2H.tMethH (cA X.K C) (toS mc) (Lift X.K n vsp) (WE W) (tVar i) (u' W), fun W tk => L2H.pe_methH (pe_var hN hv hd hcd) cl hm F hr hc hb (fun σ => passAt tk σ) (k1 W tk) h1 h2 h3, fun b σ H ε T Tv W N Q Q' I q kk xl => ?_⟩
  obtain ⟨⟨fs, ds0, e0, nf⟩, q⟩ := q
  obtain ⟨a, dx, vs0, hs, h0⟩ := I.insAt e0
  refine ⟨_, hs, a, dx, _, rfl, h0, fzip_none nf, ?_⟩
  refine k2 b σ H ε T Tv W N _ _ I q (fun ds vs ε2 H2 J l hh q2 => ?_) xl
  obtain ⟨d, e, q2⟩ := q2
  obtain ⟨v', hs', J2⟩ := J.mov e
  rw [hs] at hs'
  cases hs'
  have J3 := SI.swap (A := ds) (B := [d]) (C := []) (Av := vs) (Bv := [.ref a]) (Cv := []) (by simpa only [List.append_assoc, List.append_nil] using J2) I.lenT l rfl
  have hl : (d :: ds).length = ((V.ref a) :: vs).length := by simp [l]
  exact call_run (ds := d :: ds) (vs := .ref a :: vs) (rs := some i :: rs) I.lenT hl (by rw [← hn, ← hrs, hh.len, ← l]; rfl) (by simpa using J3) ⟨hs, hh⟩ q2 (mo (d :: ds)) kk xl
end
/-- a def whose last parameter has a number as default -/
structure Fd (P : Program) (w : World) (K : PySem.W.Frag) (mg : Str → Option Value) (base : Heap) (x : Str) (z : Int) (k n : Nat) (vsp : VSp) : Prop where
  ex : ∃ f fd ps, mg x = some (.ref f) ∧ PySem.W.keepIn K (.ref f) = true ∧ Binds K fd ps [] ∧ (∃ ds, Vals [.int z] ds ∧ Binds K fd ps ds) ∧ FnOk P w K mg base (VL.CX P w) k f fd ps (Lift K n vsp)
theorem Fd.fv {P w K mg base x z k n vsp} (F : Fd P w K mg base x z k n vsp) : Fv P w K mg base x k n vsp := let ⟨f, fd, ps, a, b, c, _, d⟩ := F.ex; ⟨f, fd, ps, a, b, c, d⟩
end VL
namespace VL
open PySem PySem.Spec PyProof.Rows L2 VL
/-- what is called to make an instance -/
structure Nv (P : Program) (w : World) (K : PySem.W.Frag) (mg : Str → Option Value) (base : Heap) (C k n : Nat) (vsp : VSp) : Prop where
  ex : ∃ f fd ps, L2.Mk K (cA K C) f ∧ Binds K fd ps [] ∧ FnOk P w K mg base (VL.CX P w) k f fd ps (Lift K n vsp)
theorem ve_newN {X : Cv} {C k n : Nat} {x : Str} {p pos : Pos} {e : Expr} {es : List Expr} {rs : List (Option Nat)} {t : VTA} {vsp : VSp} (F : Nv X.prog X.w X.K X.mg X.base C k n vsp) (mo : Mono vsp)
    (hr : Room (k + 1) X.A) (hg : Gl X.toCx x) (hm : X.mg x = some (.ref (cA X.K C))) (hn : (e :: es).length + 1 = n) (ha : VA X (e :: es) rs t) (hrs : rs.length = (e :: es).length := by rfl)
    (hdb : (x == ("__debug__" : Str)) = false := by decide) (h1 : starEach (e :: es) X.env = (false, eval e X.env) :: starEach es X.env := by rfl) (h2 : (backTo pos (starEach es X.env)).any (·.1) = false := by rfl) :
    VE X (.Call (.Name x p) (e :: es) [] pos) (vNew C vsp rs t) := by
  obtain ⟨f, fd, ps, M, hb, F⟩ := F.ex
  exact ve_new M hb F mo hr hg hm hn ha hrs hdb h1 h2
theorem roomS {X : Cv} {a : Addr} {oe : Obj} {pn : List (Addr × Obj)} {j k : Nat} (hr : Room k X.A) (_h : j ≤ k) (h2 : j ≤ 90 := by omega) : L2H.RoomH j (suX X a oe pn).A :=
  let q := hr.low h2
  ⟨q.dp, q.un⟩
section
variable {P : Program} {w : World} {K : PySem.W.Frag} {mg : Str → Option Value} {base : Heap} {st : Stmt} {N ps : List Str} {κ : List Bool} {k n : Nat} {vsp : VSp} {t : VTS} {f : Addr} {x qual : Str}
theorem Mv.make {C : Nat} (hF : ∃ fd, FunD K x qual (defArgs st) (defBody st) (defScope st) [] [] f fd) (hm : Meth K (cA K C) x f) (S : FnScope N ps (defScope st))
    (hb : ∀ {fd}, FunD K x qual (defArgs st) (defBody st) (defScope st) [] [] f fd → Binds K fd ps []) (hn : ps.length = n) (hN : n ≤ N.length)
    (hbody : ∀ (f : Addr) (cdv : Value) (A : Around) (outer : List Env) (s : Shared) (H : Hp) (E : XK), Room k (A.deeper (envOfC qual (defScope st) s.heap.objs.size f cdv)) → VSs (bodyX P w K mg base N κ qual (defScope st) f cdv A outer s H E) (defBody st) t)
    (mo : Mono vsp) (rd : Rd n κ N.length vsp t) : Mv P w K mg base C x (k + 1) n vsp := by
  obtain ⟨fd, F⟩ := hF
  exact ⟨f, fd, ps, hm, hb F, fn_ok F S hn hN (hbody f) mo rd⟩
theorem Nv.make {C : Nat} (hF : ∃ fd, FunD K x qual (defArgs st) (defBody st) (defScope st) [] [] f fd) (hm : L2.Mk K (cA K C) f) (S : FnScope N ps (defScope st))
    (hb : ∀ {fd}, FunD K x qual (defArgs st) (defBody st) (defScope st) [] [] f fd → Binds K fd ps []) (hn : ps.length = n) (hN : n ≤ N.length)
    (hbody : ∀ (f : Addr) (cdv : Value) (A : Around) (outer : List Env) (s : Shared) (H : Hp) (E : XK), Room k (A.deeper (envOfC qual (defScope st) s.heap.objs.size f cdv)) → VSs (bodyX P w K mg base N κ qual (defScope st) f cdv A outer s H E) (defBody st) t)
    (mo : Mono vsp) (rd : Rd n κ N.length vsp t) : Nv P w K mg base C (k + 1) n vsp := by
  obtain ⟨fd, F⟩ := hF
  exact ⟨f, fd, ps, hm, hb F, fn_ok F S hn hN (hbody f) mo rd⟩
theorem Mh.make {C : Nat} (hF : ∃ fd, FunD K x qual (defArgs st) (defBody st) (defScope st) [] [] f fd) (hm : Meth K (cA K C) x f) (S : FnScope N ps (defScope st))
    (hb : ∀ {fd}, FunD K x qual (defArgs st) (defBody st) (defScope st) [] [] f fd → Binds K fd ps []) (hn : ps.length = n) (hN : n ≤ N.length)
    (hbody : ∀ (f : Addr) (cdv : Value) (A : Around) (outer : List Env) (s : Shared) (H : Hp) (E : XK) (p : Addr × Obj), L2H.RoomH k (A.deeper (envOfC qual (defScope st) s.heap.objs.size f cdv)) → VSs (bodyH P w K mg base N κ qual (defScope st) f cdv A outer s H E p) (defBody st) t)
    (mo : Mono vsp) (rd : Rd n κ N.length vsp t) : Mh P w K mg base C x (k + 1) n vsp := by
  obtain ⟨fd, F⟩ := hF
  exact ⟨f, fd, ps, hm, hb F, fn_okH F S hn hN (hbody f) mo rd⟩
theorem Fd.make {z : Int} (hF : ∃ f fd, mg x = some (.ref f) ∧ FunD K x x (defArgs st) (defBody st) (defScope st) [.int z] [] f fd) (S : FnScope N ps (defScope st))
    (hb : ∀ {f fd}, FunD K x x (defArgs st) (defBody st) (defScope st) [.int z] [] f fd → (∃ ds, Vals [] ds ∧ Binds K fd ps ds) ∧ ∃ ds, Vals [.int z] ds ∧ Binds K fd ps ds) (hn : ps.length = n) (hN : n ≤ N.length)
    (hbody : ∀ (f : Addr) (cdv : Value) (A : Around) (outer : List Env) (s : Shared) (H : Hp) (E : XK), Room k (A.deeper (envOfC x (defScope st) s.heap.objs.size f cdv)) → VSs (bodyX P w K mg base N κ x (defScope st) f cdv A outer s H E) (defBody st) t)
    (mo : Mono vsp) (rd : Rd n κ N.length vsp t) : Fd P w K mg base x z (k + 1) n vsp := by
  obtain ⟨f, fd, h1, F⟩ := hF
  obtain ⟨⟨d0, v0, b0⟩, b1⟩ := hb F
  cases v0
  exact ⟨f, fd, ps, h1, F.kp, b0, b1, fn_ok F S hn hN (hbody f) mo rd⟩
end
end VL
namespace VL
open PySem PySem.Spec PyProof.Rows L2 VL
/-- a memory: names and what they are worth -/
abbrev Mem := List (Cs × Int)
def mmD (m : Bool) (M : Mem) : D := .dK m (M.map fun p => .inr p.1) (M.map fun p => .int p.2)
def lookM (M : Mem) (s : Cs) : Int := (M.lookup s).getD 0
def putM : Mem → Cs → Int → Mem
  | [], s, v => [(s, v)]
  | (t, w) :: M, s, v => if t = s then (t, v) :: M else (t, w) :: putM M s v
def worthM (M : Mem) : Opd → Int
  | .inl i => i
  | .inr s => lookM M s
theorem mm_fzL (M : Mem) : isFzL (M.map fun p : Cs × Int => D.int p.2) = true := by rw [isFzL_all]; simp [isFz]
theorem mm_fz (M : Mem) : isFz (mmD false M) = true := mm_fzL M
theorem mm_frz (m : Bool) (M : Mem) : frz (mmD m M) = mmD false M := by
  show D.dK false _ (frzL (M.map fun p : Cs × Int => D.int p.2)) = _
  rw [frzL_id (mm_fzL M)]
  rfl
theorem mm_look {M : Mem} {s : Cs} : (match kIx (M.map fun p : Cs × Int => (Sum.inr p.1 : Kc)) (.inr s) with | some j => (M.map fun p : Cs × Int => D.int p.2)[j]? | none => some (.int 0)) = some (.int (lookM M s)) := by
  induction M with
  | nil => rfl
  | cons p M ih =>
    simp only [List.map_cons, kIx]
    by_cases h : p.1 = s
    · subst h
      simp [lookM, List.lookup]
    · have h2 : ¬ (Sum.inr p.1 : Kc) = .inr s := fun z => h (Sum.inr.inj z)
      rw [if_neg h2]
      have h3 : lookM (p :: M) s = lookM M s := by
        unfold lookM
        have : (s == p.1) = false := by rw [beq_eq_false_iff_ne]; exact fun z => h z.symm
        rw [List.lookup, this]
      rw [h3, ← ih]
      cases kIx (M.map fun p : Cs × Int => (Sum.inr p.1 : Kc)) (.inr s) <;> simp
theorem dget_mm {m : Bool} {M : Mem} {s : Cs} : dget2D (mmD m M) (.str s) (.int 0) = some (.int (lookM M s)) := mm_look
theorem vdget_mm {m : Bool} {M : Mem} {s : Cs} {P : D → Prop} : (∃ d, dget2D (mmD m M) (.str s) (.int 0) = some d ∧ isFz d = true ∧ P d) ↔ P (.int (lookM M s)) := by
  rw [dget_mm]
  exact ⟨fun ⟨d, e, _, p⟩ => by cases e; exact p, fun p => ⟨_, rfl, rfl, p⟩⟩
theorem isDct_mm {m : Bool} {M : Mem} : isDct (mmD m M) = true := rfl
theorem put_kIx {M : Mem} {s : Cs} {v : Int} : (match kIx (M.map fun p : Cs × Int => (Sum.inr p.1 : Kc)) (.inr s) with
    | some j => D.dK true (M.map fun p => .inr p.1) ((M.map fun p : Cs × Int => D.int p.2).set j (.int v))
    | none => D.dK true ((M.map fun p => .inr p.1) ++ [.inr s]) ((M.map fun p : Cs × Int => D.int p.2) ++ [.int v])) = mmD true (putM M s v) := by
  induction M with
  | nil => rfl
  | cons p M ih =>
    obtain ⟨t, w⟩ := p
    simp only [List.map_cons, kIx]
    by_cases h : t = s
    · subst h
      simp [putM, mmD]
    · have h2 : ¬ (Sum.inr t : Kc) = .inr s := fun z => h (Sum.inr.inj z)
      rw [if_neg h2]
      unfold putM
      rw [if_neg h]
      cases e : kIx (M.map fun p : Cs × Int => (Sum.inr p.1 : Kc)) (.inr s) with
      | none =>
        rw [e] at ih
        simp only [mmD, D.dK.injEq, true_and] at ih
        simp only [Option.map_none, mmD, List.map_cons, List.cons_append, D.dK.injEq, true_and, List.cons.injEq]
        exact ih
      | some j =>
        rw [e] at ih
        simp only [mmD, D.dK.injEq, true_and] at ih
        simp only [Option.map_some, mmD, List.map_cons, List.set_cons_succ, D.dK.injEq, true_and, List.cons.injEq]
        exact ih
theorem put_mm {M : Mem} {s : Cs} {v : Int} (h : M.length < 1000000) : putD (mmD true M) (.str s) (.int v) = some (mmD true (putM M s v)) := by
  show (if (M.map fun p : Cs × Int => D.int p.2).length < 1000000 then _ else none) = _
  rw [if_pos (by simpa using h)]
  show some _ = some _
  first | (rw [← put_kIx]; done) | (rw [← put_kIx]; rfl)
theorem lookM_put {M : Mem} {s t : Cs} {v : Int} : lookM (putM M s v) t = if t = s then v else lookM M t := by
  induction M with
  | nil =>
    unfold putM lookM
    by_cases h : t = s
    · subst h; simp [List.lookup]
    · have e : (t == s) = false := by rw [beq_eq_false_iff_ne]; exact h
      simp [List.lookup, e, h]
  | cons p M ih =>
    obtain ⟨u, w⟩ := p
    unfold putM
    by_cases h : u = s
    · subst h
      rw [if_pos rfl]
      by_cases h2 : t = u
      · subst h2; simp [lookM, List.lookup]
      · have e : (t == u) = false := by rw [beq_eq_false_iff_ne]; exact h2
        simp [lookM, List.lookup, e, h2]
    · rw [if_neg h]
      by_cases h2 : t = u
      · subst h2
        rw [if_neg h]
        simp [lookM, List.lookup]
      · have e : (t == u) = false := by rw [beq_eq_false_iff_ne]; exact h2
        have e1 : ∀ (x : Int) (L : Mem), lookM ((u, x) :: L) t = lookM L t := fun x L => by simp [lookM, List.lookup, e]
        rw [e1, e1, ih]
/-- what a sign makes of two numbers; none: refused -/
def madeV (s : Cs) (i j : Int) : Option Int := if s = [43] then some (i + j) else if s = [45] then some (i - j) else if s = [38] then some (Builtin.bitAnd i j) else if s = [94] then some (Builtin.bitXor i j) else
  if j = 0 then none else if s = [47] then some (pdiv i j) else some (pmod i j)
def holdsV (s : Cs) (i j : Int) : Bool := if s = [60] then decide (i < j) else decide (i = j)
/-- small enough to divide by -/
abbrev Sm (i : Int) : Prop := i.natAbs < 2 ^ 250
theorem cdv_sm {i j : Int} (h : j ≠ 0) (h2 : Sm j) : CDv i j := ⟨h, by
  have h3 : j.natAbs ≠ 0 := by omega
  have := (Nat.log2_lt h3).mpr h2
  omega⟩
inductive Dd where
  | sum (x : Cs) (i : Int) (s : Cs) (j r : Int)
  | test (i : Int) (s : Cs) (j : Int) (t : Bool)
def dedL : Dd → List D
  | .sum x i s j r => [.str cSum, .str x, .int i, .str s, .int j, .int r]
  | .test i s j t => [.str cTest, .int i, .str s, .int j, .bl t]
def dedD (d : Dd) : D := .tup (dedL d)
theorem ded_fz (d : Dd) : isFz (dedD d) = true := by cases d <;> rfl
theorem deds_fz (ds : List Dd) : isFzL (ds.map dedD) = true := by rw [isFzL_all]; simp [ded_fz]
theorem deds_frz (ds : List Dd) : frzL (ds.map dedD) = ds.map dedD := frzL_id (deds_fz ds)
structure Dds where
  mem : Mem
  most : Int
  done : List Dd
abbrev cMemF : Cs := [109, 101, 109, 111, 114, 121]
abbrev cMostF : Cs := [109, 111, 115, 116]
abbrev cDoneF : Cs := [100, 111, 110, 101]
def ddsD (m : Bool) (d : Dds) : D := .ins m 0 [cMemF, cMostF, cDoneF] [mmD m d.mem, .int d.most, .lst m (d.done.map dedD)]
theorem dds_frz (m : Bool) (d : Dds) : frz (ddsD m d) = ddsD false d := by
  show D.ins false 0 _ (frzL [mmD m d.mem, .int d.most, .lst m (d.done.map dedD)]) = _
  show D.ins false 0 _ [frz (mmD m d.mem), .int d.most, .lst false (frzL (d.done.map dedD))] = _
  rw [mm_frz, deds_frz]
  rfl
/-- where each row stands, by its number -/
def plcD (m : Bool) (rs : List Rw) : D := .dK m (natK (nums rs)) (natsD (List.range rs.length))
theorem plc_frz (m : Bool) (rs : List Rw) : frz (plcD m rs) = plcD false rs := by
  show D.dK false _ (frzL (natsD _)) = _
  rw [natsD_frz]
  rfl
abbrev cOn : Cs := [111, 110]
abbrev cFault : Cs := [102, 97, 117, 108, 116]
abbrev Told := List Dd × Cs × Mem
def toldD (r : Told) : D := .tup [.lst true (r.1.map dedD), .str r.2.1, mmD true r.2.2]
structure RS where
  pos : Nat
  jumps : Nat
  mem : Mem
  done : List Dd
def stepR (rs : List Rw) (most : Int) (s : RS) : Option (Sum Told RS) := match rs[s.pos]? with
  | none => none
  | some (.fin _) => some (.inl (s.done, cEnd, s.mem))
  | some (.jump _ to) => if rs.length < s.jumps + 1 then some (.inl (s.done, cOn, s.mem)) else some (.inr ⟨(nums rs).idxOf to, s.jumps + 1, s.mem, s.done⟩)
  | some (.sum _ x a sg b) => if most ≤ s.done.length then some (.inl (s.done, cOn, s.mem)) else match madeV sg (worthM s.mem a) (worthM s.mem b) with
    | none => some (.inl (s.done, cFault, s.mem))
    | some v => some (.inr ⟨s.pos + 1, 0, putM s.mem x v, s.done ++ [.sum x (worthM s.mem a) sg (worthM s.mem b) v]⟩)
  | some (.test _ a sg b to) => if most ≤ s.done.length then some (.inl (s.done, cOn, s.mem)) else
      some (.inr ⟨if holdsV sg (worthM s.mem a) (worthM s.mem b) = true then (nums rs).idxOf to else s.pos + 1, 0, s.mem, s.done ++ [.test (worthM s.mem a) sg (worthM s.mem b) (holdsV sg (worthM s.mem a) (worthM s.mem b))]⟩)
/-- what is asked of a state -/
structure RSok (rs : List Rw) (s : RS) : Prop where
  lt : s.pos < rs.length
  mem : s.mem.length ≤ 100000
  done : s.done.length ≤ 100000
  sm : ∀ n x a sg b, rs[s.pos]? = some (.sum n x a sg b) → Sm (worthM s.mem b)
inductive RunsN (rs : List Rw) (most : Int) (res : Told) : Nat → RS → Prop
  | stop {s : RS} : RSok rs s → stepR rs most s = some (.inl res) → RunsN rs most res 0 s
  | go {s s' : RS} {n : Nat} : RSok rs s → stepR rs most s = some (.inr s') → RunsN rs most res n s' → RunsN rs most res (n + 1) s
theorem RunsN.ok {rs : List Rw} {most : Int} {res : Told} {n : Nat} {s : RS} : RunsN rs most res n s → RSok rs s
  | .stop h _ => h
  | .go h _ _ => h
end VL
namespace VL
open PySem PySem.Spec PyProof.Rows L2 VL
/-- the same, but for dicts that are locked or unlocked -/
def Lk (G G' : Hp) : Prop := ∀ a, G' a = G a ∨ ∃ o kvs, (G a = some (.dK kvs) ∧ G' a = some (.frz o (.dK kvs))) ∨ (G a = some (.frz o (.dK kvs)) ∧ G' a = some (.dK kvs))
section
variable {K : PySem.W.Frag} {G G' H H' : Hp}
theorem Lk.rdK (h : Lk G G') {a : Addr} {kvs : List (Key × V)} (r : L2.Rd G a (.dK kvs)) : L2.Rd G' a (.dK kvs) := by
  rcases h a with e | ⟨o, k2, ⟨e1, e2⟩ | ⟨e1, e2⟩⟩
  · unfold L2.Rd; rw [e]; exact r
  · rcases r with r | ⟨q, r⟩
    · rw [e1] at r; cases r; exact .inr ⟨o, e2⟩
    · rw [e1] at r; cases r
  · rcases r with r | ⟨q, r⟩
    · rw [e1] at r; cases r
    · rw [e1] at r; cases r; exact .inl e2
theorem Lk.other (h : Lk G G') {a : Addr} {o : HO} (e : G a = some o) (n : ∀ kvs, o ≠ .dK kvs) (m : ∀ q kvs, o ≠ .frz q (.dK kvs)) : G' a = some o := by
  rcases h a with e2 | ⟨q, k2, ⟨e1, e2⟩ | ⟨e1, e2⟩⟩
  · rw [e2, e]
  · rw [e] at e1; cases e1; exact absurd rfl (n k2)
  · rw [e] at e1; cases e1; exact absurd rfl (m q k2)
theorem Lk.sqL (h : Lk G G') {a : Addr} {xs : List V} (r : SqL K G a xs) : SqL K G' a xs := by
  rcases r with (r | ⟨o, r⟩) | r
  · exact .inl (.inl (h.other r (fun _ z => nomatch z) fun _ _ z => nomatch z))
  · exact .inl (.inr ⟨o, h.other r (fun _ z => nomatch z) fun _ _ z => by cases z⟩)
  · exact .inr r
mutual
theorem Rp.lk (h : Lk G G') : ∀ {d : D} {v : V} {F : List Addr}, (∀ a ∈ F, H' a = H a) → Rp K G H d v F → Rp K G' H' d v F
  | .hole, _, _, _, r => r
  | .val _, _, _, _, r => r
  | .non, _, _, _, r => r
  | .bl _, _, _, _, r => r
  | .int _, _, _, _, r => r
  | .str _, _, _, _, r => r
  | .ty _, _, _, _, r => r
  | .pin u d, v, F, k, r => ⟨r.1, Rp.lk h k r.2⟩
  | .exn _ _ _ row, v, F, k, r => by
    obtain ⟨e, w, s, r⟩ := r
    exact ⟨⟨e.1, h.other e.2 (fun _ z => nomatch z) (fun _ _ z => nomatch z)⟩, w, h.other s (fun _ z => nomatch z) (fun _ _ z => nomatch z), Rp.lk h k r⟩
  | .tup ds, v, F, k, r => by
    obtain ⟨a, vs, e, s, r⟩ := r
    exact ⟨a, vs, e, h.other s (fun _ z => nomatch z) (fun _ _ z => nomatch z), RpL.lk h k r⟩
  | .lst false ds, v, F, k, r => by
    obtain ⟨a, vs, e, s, f, r⟩ := r
    exact ⟨a, vs, e, h.sqL s, f, RpL.lk h (fun _ z => nomatch z) r⟩
  | .lst true ds, v, F, k, r => by
    obtain ⟨a, vs, F', e, s, rfl, r⟩ := r
    exact ⟨a, vs, F', e, (k a List.mem_cons_self).trans s, rfl, RpL.lk h (fun b z => k b (List.mem_cons_of_mem _ z)) r⟩
  | .dK false ks ds, v, F, k, r => by
    obtain ⟨a, vs, e, s, f, l, n, r⟩ := r
    exact ⟨a, vs, e, h.rdK s, f, l, n, RpL.lk h (fun _ z => nomatch z) r⟩
  | .dK true ks ds, v, F, k, r => by
    obtain ⟨a, vs, F', e, s, rfl, l, n, r⟩ := r
    exact ⟨a, vs, F', e, (k a List.mem_cons_self).trans s, rfl, l, n, RpL.lk h (fun b z => k b (List.mem_cons_of_mem _ z)) r⟩
  | .dT false ks ds, v, F, k, r => by
    obtain ⟨a, vs, e, s, f, l, n, r⟩ := r
    exact ⟨a, vs, e, h.other s (fun _ z => nomatch z) (fun _ _ z => nomatch z), f, l, n, RpL.lk h (fun _ z => nomatch z) r⟩
  | .dT true ks ds, v, F, k, r => by
    obtain ⟨a, vs, F', e, s, rfl, l, n, r⟩ := r
    exact ⟨a, vs, F', e, (k a List.mem_cons_self).trans s, rfl, l, n, RpL.lk h (fun b z => k b (List.mem_cons_of_mem _ z)) r⟩
  | .ins false C fs ds, v, F, k, r => by
    obtain ⟨a, dx, vs, e, s, f, l, r⟩ := r
    exact ⟨a, dx, vs, e, h.other s (fun _ z => nomatch z) (fun _ _ z => nomatch z), f, l, RpL.lk h (fun _ z => nomatch z) r⟩
  | .ins true C fs ds, v, F, k, r => by
    obtain ⟨a, dx, vs, F', e, s, rfl, l, r⟩ := r
    exact ⟨a, dx, vs, F', e, (k a List.mem_cons_self).trans s, rfl, l, RpL.lk h (fun b z => k b (List.mem_cons_of_mem _ z)) r⟩
theorem RpL.lk (h : Lk G G') : ∀ {ds : List D} {vs : List V} {F : List Addr}, (∀ a ∈ F, H' a = H a) → RpL K G H ds vs F → RpL K G' H' ds vs F
  | [], _, _, _, r => r
  | d :: ds, vs, F, k, r => by
    obtain ⟨v, vs', F1, F2, rfl, rfl, r, rs⟩ := r
    exact ⟨v, vs', F1, F2, rfl, rfl, Rp.lk h (fun a z => k a (List.mem_append_left _ z)) r, RpL.lk h (fun a z => k a (List.mem_append_right _ z)) rs⟩
end
theorem RpO.lk (h : Lk G G') {od : Option D} {ov : Option V} {F : List Addr} (k : ∀ a ∈ F, H' a = H a) (r : RpO K G H od ov F) : RpO K G' H' od ov F := by
  cases od with
  | none => exact r
  | some d =>
    obtain ⟨v, e, r⟩ := r
    exact ⟨v, e, r.lk h k⟩
theorem RpS.lk (h : Lk G G') : ∀ {ε : Ep} {σ : L2.St} {F : List Addr}, (∀ a ∈ F, H' a = H a) → RpS K G H ε σ F → RpS K G' H' ε σ F
  | [], _, _, _, r => r
  | od :: ε, σ, F, k, r => by
    obtain ⟨ov, σ', F1, F2, rfl, rfl, r, rs⟩ := r
    exact ⟨ov, σ', F1, F2, rfl, rfl, r.lk h (fun a z => k a (List.mem_append_left _ z)), RpS.lk h (fun a z => k a (List.mem_append_right _ z)) rs⟩
end
section
variable {K : PySem.W.Frag} {b : Bs} {σ : L2.St} {H : Hp} {ε : Ep} {T : List D} {Tv : List V}
/-- a dict in a slot that stands still -/
theorem SI.dictAt (I : SI K b σ H ε T Tv) {i : Nat} {ks : List Kc} {xs : List D} (e : ε[i]? = some (some (.dK false ks xs))) :
    ∃ a vs, σ[i]? = some (some (.ref a)) ∧ ks.length = vs.length ∧ ((∃ G F Ft, SIx K b G F Ft σ H ε T Tv ∧ G a = some (.dK (kzip ks vs))) ∨ ∃ o, H a = some (.frz o (.dK (kzip ks vs)))) := by
  obtain ⟨G, F, Ft, J⟩ := I
  obtain ⟨ov, A, B, C', hs, rfl, r, _⟩ := J.slots.focus e
  obtain ⟨v, rfl, a, vs, rfl, s, _, l, _, rl⟩ := r
  refine ⟨a, vs, hs, l.trans rl.len, ?_⟩
  rcases s with s | ⟨o, s⟩
  · exact .inl ⟨G, _, Ft, J, s⟩
  · exact .inr ⟨o, J.sub _ _ s⟩
/-- the ground while a dict is locked -/
theorem SIx.lock {G : Hp} {F Ft : List Addr} (J : SIx K b G F Ft σ H ε T Tv) {a : Addr} {kvs : List (Key × V)} (e : G a = some (.dK kvs)) (o : Obj) :
    ∃ bL : Bs, bL.kv = b.kv ∧ bL.H0 = upd H a (.frz o (.dK kvs)) ∧ a ∉ bL.F0 ∧ SI K bL σ (upd H a (.frz o (.dK kvs))) ε T Tv ∧
      ∀ σ' H' ε' (T' : List D) (Tv' : List V), SI K bL σ' H' ε' T' Tv' → H' a = some (.frz o (.dK kvs)) ∧ SI K b σ' (upd H' a (.dK kvs)) ε' T' Tv' := by
  have na : a ∉ F ++ Ft := fun z => by rw [J.fr a z] at e; cases e
  have eH := J.sub _ _ e
  have lk : Lk G (upd G a (.frz o (.dK kvs))) := fun c => by
    by_cases h : c = a
    · subst h; exact .inr ⟨o, kvs, .inl ⟨e, upd_same⟩⟩
    · exact .inl (upd_ne h)
  have kp : ∀ c ∈ F ++ Ft, upd H a (.frz o (.dK kvs)) c = H c := fun c hc => upd_ne fun h => na (by rw [← h]; exact hc)
  refine ⟨⟨upd H a (.frz o (.dK kvs)), upd G a (.frz o (.dK kvs)), F ++ Ft, b.kv⟩, rfl, rfl, na, ⟨upd G a (.frz o (.dK kvs)), F, Ft, Sub.refl, fun c u h => ?_, J.slots.lk lk fun c z => kp c (List.mem_append_left _ z), J.temps.lk lk fun c z => kp c (List.mem_append_right _ z), J.nd, fun c z => ?_, fun c z => .inl z, fun c u h => .inl h, fun c u h _ => h, J.kept⟩, ?_⟩
  · by_cases hc : c = a
    · subst hc; rw [upd_same] at h ⊢; exact h
    · rw [upd_ne hc] at h ⊢; exact J.sub _ _ h
  · rw [upd_ne fun h => na (by rw [← h]; exact z)]; exact J.fr c z
  · rintro σ' H' ε' T' Tv' ⟨G', F', Ft', J'⟩
    have g' : G' a = some (.frz o (.dK kvs)) := J'.s0 _ _ upd_same
    have h' := J'.sub _ _ g'
    have na' : a ∉ F' ++ Ft' := fun z => by rw [J'.fr a z] at g'; cases g'
    have lk' : Lk G' (upd G' a (.dK kvs)) := fun c => by
      by_cases h : c = a
      · subst h; exact .inr ⟨o, kvs, .inr ⟨g', upd_same⟩⟩
      · exact .inl (upd_ne h)
    have kp' : ∀ c ∈ F' ++ Ft', upd H' a (.dK kvs) c = H' c := fun c hc => upd_ne fun h => na' (by rw [← h]; exact hc)
    refine ⟨h', upd G' a (.dK kvs), F', Ft', fun c u h => ?_, fun c u h => ?_, J'.slots.lk lk' fun c z => kp' c (List.mem_append_left _ z), J'.temps.lk lk' fun c z => kp' c (List.mem_append_right _ z), J'.nd, fun c z => ?_, fun c z => ?_, fun c u h => ?_, fun c u h n => ?_, J'.kept⟩
    · have h1 := J.s0 _ _ h
      by_cases hc : c = a
      · subst hc; rw [e] at h1; cases h1; exact upd_same
      · rw [upd_ne hc]
        exact J'.s0 _ _ (by show upd G a _ c = _; rw [upd_ne hc]; exact h1)
    · by_cases hc : c = a
      · subst hc; rw [upd_same] at h ⊢; exact h
      · rw [upd_ne hc] at h ⊢; exact J'.sub _ _ h
    · rw [upd_ne fun h => na' (by rw [← h]; exact z)]; exact J'.fr c z
    · rcases J'.own c z with q | q
      · exact J.own c q
      · by_cases hc : c = a
        · subst hc
          exact absurd z na'
        · refine J.h0 ?_
          have q : upd H a (.frz o (.dK kvs)) c = none := q
          rwa [upd_ne hc] at q
    · by_cases hc : c = a
      · subst hc
        rw [upd_same] at h
        cases h
        exact J.gn _ _ e
      · rw [upd_ne hc] at h
        rcases J'.gn c u h with q | q | q | q
        · have q : upd G a (.frz o (.dK kvs)) c = some u := q
          rw [upd_ne hc] at q
          exact J.gn _ _ q
        · exact .inr (inl3 (J.own c q))
        · have q : upd H a (.frz o (.dK kvs)) c = none := q
          rw [upd_ne hc] at q
          exact .inr (inl3 (J.h0 q))
        · exact .inr (.inr (.inr q))
    · have h1 := J.keep c u h n
      by_cases hc : c = a
      · subst hc; rw [eH] at h1; cases h1; exact upd_same
      · rw [upd_ne hc]
        refine J'.keep c u (by show upd H a _ c = _; rw [upd_ne hc]; exact h1) fun z => ?_
        rcases J.own c z with q | q
        · exact n q
        · rw [h] at q; cases q
/-- the ground while a dict that is locked already is walked -/
theorem SI.held (I : SI K b σ H ε T Tv) : ∃ bL : Bs, bL.kv = b.kv ∧ bL.H0 = H ∧ (∀ a o u, H a = some (.frz o u) → a ∉ bL.F0) ∧ SI K bL σ H ε T Tv ∧ ∀ σ' H' ε' (T' : List D) (Tv' : List V), SI K bL σ' H' ε' T' Tv' → SI K b σ' H' ε' T' Tv' := by
  obtain ⟨G, F, Ft, J⟩ := I
  refine ⟨⟨H, G, F ++ Ft, b.kv⟩, rfl, rfl, fun a o u h z => ?_, ⟨G, F, Ft, Sub.refl, J.sub, J.slots, J.temps, J.nd, J.fr, fun c z => .inl z, fun c u h => .inl h, fun c u h _ => h, J.kept⟩, ?_⟩
  · have : ∃ u, H a = some u ∧ Mut (some u) := by
      rcases List.mem_append.mp z with z | z
      · exact J.slots.there a z
      · exact J.temps.there a z
    obtain ⟨u2, e2, m⟩ := this
    rw [h] at e2
    cases e2
    exact m
  · rintro σ' H' ε' T' Tv' ⟨G', F', Ft', J'⟩
    refine ⟨G', F', Ft', J.s0.trans J'.s0, J'.sub, J'.slots, J'.temps, J'.nd, J'.fr, fun c z => ?_, fun c u h => ?_, fun c u h n => ?_, J'.kept⟩
    · rcases J'.own c z with q | q
      · exact J.own c q
      · exact J.h0 q
    · rcases J'.gn c u h with q | q | q | q
      · exact J.gn _ _ q
      · exact .inr (inl3 (J.own c q))
      · exact .inr (inl3 (J.h0 q))
      · exact .inr (.inr (.inr q))
    · refine J'.keep c u (J.keep c u h n) fun z => ?_
      rcases J.own c z with q | q
      · exact n q
      · rw [h] at q; cases q
end
def keyKD : Kc → D
  | .inl i => .int i
  | .inr s => .str s
theorem keyKD_rp {K : PySem.W.Frag} {G H : Hp} (k : Kc) : Rp K G H (keyKD k) (kV (kc k)) [] := by cases k <;> exact ⟨rfl, rfl⟩
def vForKeys (i : Nat) (g : VTG) (body : VTS) : VTS := fun N ε => ∃ ks xs, ε[i]? = some (some (.dK false ks xs)) ∧ vForL g body (ks.map keyKD) { N with rx := fun _ _ _ => False } ε
section
variable {X : Cv}
theorem keys_run {g : VTG} {t : VTS} {g' : TG} {t' : TS} {i : Nat}
    (g2 : ∀ (b : Bx X) σ H ε T Tv d v (Q : Ep → Prop) (Q' : L2.St → Hp → Prop), SI X.K b.1 σ H ε (T ++ [d]) (Tv ++ [v]) → T.length = Tv.length → g d ε Q → (∀ ε' σ' H', SI X.K b.1 σ' H' ε' T Tv → Q ε' → Q' σ' H') → g' v σ H Q')
    (t2 : ∀ (b : Bx X) σ H ε T Tv N E, SI X.K b.1 σ H ε T Tv → t N ε → EL X.K b.1 T Tv N E → N.rx = (fun _ _ _ => False) → t' E σ H)
    (b : Bx X) {σ : L2.St} {H : Hp} {ε : Ep} {T : List D} {Tv : List V} {N : VEnds} {E : Ends} {a : Addr} {o : Obj} {ks : List Kc} {vs : List V} (I : SI X.K b.1 σ H ε T Tv) (hs : σ[i]? = some (some (.ref a))) (ha : H a = some (.frz o (.dK (kzip ks vs))))
    (h0 : b.1.H0 a = some (.frz o (.dK (kzip ks vs)))) (hf : a ∉ b.1.F0) (hl : ks.length = vs.length) (q : vForL g t (ks.map keyKD) N ε) (hx : N.rx = fun _ _ _ => False) (l : EL X.K b.1 T Tv N E) : tFor (iKeys (tVar i)) g' t' E σ H := by
  have kl : (kzip ks vs).length = ks.length := by unfold kzip; rw [List.length_zip, List.length_map]; omega
  refine ⟨.ref a, hs, a, o, rfl, .inl ⟨_, ha, ?_⟩⟩
  refine ⟨fun j m σ H => m = ks.length - j ∧ j ≤ ks.length ∧ ∃ ε, SI X.K b.1 σ H ε T Tv ∧ vForL g t ((ks.map keyKD).drop j) N ε, ⟨ks.length, rfl, Nat.zero_le _, ε, I, q⟩, ?_⟩
  rintro j m σ2 H2 ⟨rfl, hj, ε2, I2, z2⟩
  have ha2 : H2 a = some (.frz o (.dK (kzip ks vs))) := by
    obtain ⟨G, F, Ft, J⟩ := I2
    exact J.keep _ _ h0 hf
  by_cases hlt : j < ks.length
  · right
    have hlt2 : j < (ks.map keyKD).length := by simpa using hlt
    rw [List.drop_eq_getElem_cons hlt2] at z2
    refine ⟨⟨ha2, by omega⟩, fun σ' H' => ∃ ε, SI X.K b.1 σ' H' ε T Tv ∧ vForL g t ((ks.map keyKD).drop (j + 1)) N ε, fun σ' H' y => ⟨ks.length - (j + 1), by omega, rfl, hlt, y⟩, fun v H' y => ?_⟩
    obtain ⟨rfl, k, w, hk, rfl⟩ := y
    have ek : k = kc ks[j] := by
      unfold kzip at hk
      have := (List.getElem?_zip_eq_some.mp hk).1
      rw [List.getElem?_map, List.getElem?_eq_getElem hlt] at this
      exact (Option.some.inj this).symm
    subst ek
    have I3 := I2.push (d := keyKD ks[j]) (v := kV (kc ks[j])) fun G => keyKD_rp _
    have ed : (ks.map keyKD)[j] = keyKD ks[j] := by simp
    rw [ed] at z2
    refine g2 b σ2 H' ε2 T Tv _ _ _ _ I3 I2.lenT z2 fun ε4 σ4 H4 I4 z4 => ?_
    exact t2 b σ4 H4 ε4 T Tv _ _ I4 z4 ⟨fun σ5 H5 ε5 I5 z5 => ⟨ε5, I5, z5⟩, fun σ5 H5 ε5 d5 v5 I5 z5 => l.rt σ5 H5 ε5 d5 v5 I5 z5, fun σ5 H5 ε5 I5 z5 => l.nx σ5 H5 ε5 I5 z5, fun σ5 H5 ε5 I5 z5 => ⟨ε5, I5, z5⟩⟩ hx
  · left
    have e : j = ks.length := by omega
    subst e
    rw [List.drop_eq_nil_of_le (by simp)] at z2
    exact ⟨⟨ha2, by omega⟩, l.nx σ2 H2 ε2 I2 z2⟩
theorem ps_or {Y : Cx} {st : Stmt} {t u : TS} (h : PS Y st t) (k : PS Y st u) : PS Y st (fun D σ H => t D σ H ∨ u D σ H) := ⟨fun pins s σ H D I q => q.elim (h.run pins s σ H D I) (k.run pins s σ H D I)⟩
theorem vs_forKeys {tg : Expr} {x : Str} {p pos : Pos} {body : List Stmt} {i : Nat} {g : VTG} {t : VTS} (hp : PassesOwn (model X.prog X.w) X.A X.env X.xe) (hc : X.calm = true) (hN : X.N[i]? = some x) (hv : Vis X.env.scope x) (hg : VTa X tg g) (hb : VSs X body t)
    (hd : (x == ("__debug__" : Str)) = false := by decide) (hcd : (x == ("__classdict__" : Str)) = false := by decide)
    (hs : ∀ z, foldedSetIterable (.Name x p) X.env z = pure z := by intro _; rfl) : VS X (.For tg (.Name x p) body [] pos) (vForKeys i g t) := by
  obtain ⟨g', g1, g2⟩ := hg.ex
  obtain ⟨t', t1, t2⟩ := hb.ex
  have F := ps_for (pos := pos) hp hc (pi_keys (pe_var (i := i) hN hv hd hcd)) g1 (t1 (fun _ _ _ _ => False) takes_noX) hs
  refine ⟨fun _ => fun D σ H => tLock (tFor (iKeys (tVar i)) g' (t' fun _ _ _ _ => False)) D σ H ∨ tFor (iKeys (tVar i)) g' (t' fun _ _ _ _ => False) D σ H, fun W tk => ps_or (ps_lock F) F, fun b σ H ε T Tv W N E I q l xl => ?_⟩
  obtain ⟨ks, xs, e, q⟩ := q
  obtain ⟨a, vs, hs2, hl, hcase⟩ := I.dictAt e
  have t3 : ∀ (b : Bx X) σ H ε T Tv N E, SI X.K b.1 σ H ε T Tv → t N ε → EL X.K b.1 T Tv N E → N.rx = (fun _ _ _ => False) → t' (fun _ _ _ _ => False) E σ H := fun b σ H ε T Tv N E I q l hx => t2 b σ H ε T Tv _ N E I q l fun _ _ _ _ _ _ _ _ _ _ z => by rw [hx] at z; exact z
  rcases hcase with ⟨G, F0, Ft, J, hG⟩ | ⟨o, hH⟩
  · left
    refine ⟨a, _, J.sub _ _ hG, trivial, fun od => ?_⟩
    obtain ⟨bL, k1, k2, k3, I2, out⟩ := J.lock hG od
    have bx : ∀ (j : Nat) u, bL.kv[j]? = some (some u) → X.κ[j]? = some true := fun j u z => b.2 j u (by rw [← k1]; exact z)
    refine keys_run (N := { N with rx := fun _ _ _ => False }) g2 t3 ⟨bL, bx⟩ I2 hs2 upd_same (by show bL.H0 a = _; rw [k2]; exact upd_same) k3 hl q rfl ⟨fun σ' H' ε' J' z' => ?_, fun σ' H' ε' d v J' z' => ?_, fun σ' H' ε' J' z' => ?_, fun σ' H' ε' J' z' => ?_⟩
    · exact ⟨(out _ _ _ _ _ J').1, l.nx _ _ _ (out _ _ _ _ _ J').2 z'⟩
    · exact ⟨(out _ _ _ _ _ J').1, l.rt _ _ _ _ _ (out _ _ _ _ _ J').2 z'⟩
    · exact ⟨(out _ _ _ _ _ J').1, l.bk _ _ _ (out _ _ _ _ _ J').2 z'⟩
    · exact ⟨(out _ _ _ _ _ J').1, l.ct _ _ _ (out _ _ _ _ _ J').2 z'⟩
  · right
    obtain ⟨bL, k1, k2, k3, I2, out⟩ := I.held
    have bx : ∀ (j : Nat) u, bL.kv[j]? = some (some u) → X.κ[j]? = some true := fun j u z => b.2 j u (by rw [← k1]; exact z)
    exact keys_run (N := { N with rx := fun _ _ _ => False }) g2 t3 ⟨bL, bx⟩ I2 hs2 hH (by show bL.H0 a = _; rw [k2]; exact hH) (k3 a _ _ hH) hl q rfl ⟨fun σ' H' ε' J' z' => l.nx _ _ _ (out _ _ _ _ _ J') z', fun σ' H' ε' d v J' z' => l.rt _ _ _ _ _ (out _ _ _ _ _ J') z', fun σ' H' ε' J' z' => l.bk _ _ _ (out _ _ _ _ _ J') z', fun σ' H' ε' J' z' => l.ct _ _ _ (out _ _ _ _ _ J') z'⟩
end
end VL
namespace VL
open PySem PySem.Spec PyProof.Rows L2 VL
theorem ep_back {ε : Ep} {i : Nat} (h : ε[i]? = some none) (d : Option D) : (ε.set i d).set i none = ε := by
  rw [List.set_set]
  apply List.ext_getElem?
  intro j
  rw [List.getElem?_set]
  by_cases e : i = j
  · subst e
    rw [if_pos rfl]
    split
    · exact h.symm
    · next z => rw [List.getElem?_eq_none (by omega)]
  · rw [if_neg e]
theorem lc_map {α : Type} {te te' : VTE} {i : Nat} {ε : Ep} {Q : List D → Ep → Prop} {f g : α → D} (he : te = te') : ∀ (ks : List α) (acc : List D),
    (∀ k ∈ ks, ∀ P : D → Ep → Prop, P (f k) (ε.set i (some (g k))) → te' noX (ε.set i (some (g k))) P) → ε[i]? = some none → acc.length + ks.length ≤ 1000000 → Q (acc ++ ks.map f) ε → vLcL [i] (vName i) vYes te (ks.map g) acc ε Q
  | [], acc, _, _, _, q => by
    rw [List.map_nil, List.append_nil] at q
    exact q
  | k :: ks, acc, h, hn, hl, q => by
    have hl : acc.length + (ks.length + 1) ≤ 1000000 := hl
    rw [List.map_cons, e_lcU he]
    refine ⟨(List.getElem?_eq_some_iff.mp hn).1, ?_⟩
    show if (true : Bool) = true then te' noX (ε.set i (some (g k))) (fun y ε3 => acc.length < 1000000 ∧ vLcL [i] (vName i) vYes te (ks.map g) (acc ++ [y]) (forgetE [i] ε3) Q) else vLcL [i] (vName i) vYes te (ks.map g) acc (forgetE [i] (ε.set i (some (g k)))) Q
    rw [if_pos rfl]
    refine h k List.mem_cons_self _ ⟨by omega, ?_⟩
    have e : forgetE [i] (ε.set i (some (g k))) = ε := ep_back hn _
    rw [e]
    refine lc_map he ks (acc ++ [f k]) (fun k2 h2 => h k2 (List.mem_cons_of_mem _ h2)) hn (by rw [List.length_append, List.length_singleton]; omega) ?_
    rw [List.append_assoc]
    exact q
theorem lc_rng {te te' : VTE} {i n : Nat} {ε : Ep} {Q : List D → Ep → Prop} {f : Nat → D} (he : te = te')
    (h : ∀ k < n, ∀ P : D → Ep → Prop, P (f k) (ε.set i (some (.int (k : Int)))) → te' noX (ε.set i (some (.int (k : Int)))) P) (hn : ε[i]? = some none) (hl : n ≤ 1000000) (q : Q ((List.range n).map f) ε) : vLcL [i] (vName i) vYes te (rng 0 n) [] ε Q := by
  rw [rng0]
  exact lc_map (g := fun k : Nat => D.int (k : Int)) he (List.range n) [] (fun k hk => h k (List.mem_range.mp hk)) hn (by simp; omega) q
end VL
namespace VL
open PySem PySem.Spec PyProof.Rows L2 VL
mutual
def plN : Nat → D → Bool
  | _, .bl _ => true
  | _, .int _ => true
  | _, .str _ => true
  | n + 1, .tup xs => decide (xs.length < 1000000) && plNL n xs
  | n + 1, .lst m xs => !m && (decide (xs.length < 1000000) && plNL n xs)
  | _, _ => false
def plNL : Nat → List D → Bool
  | _, [] => true
  | n, d :: ds => plN n d && plNL n ds
end
theorem plNL_all : ∀ (n : Nat) (ds : List D), plNL n ds = ds.all (plN n)
  | _, [] => by rw [plNL]; rfl
  | n, d :: ds => by rw [plNL, plNL_all n ds, List.all_cons]
theorem plN_fz : ∀ (n : Nat) (d : D), plN n d = true → isFz d = true := by
  intro n
  induction n with
  | zero => intro d h; cases d <;> first | rfl | (simp [plN] at h; done)
  | succ n ih =>
    have l : ∀ xs, plNL n xs = true → isFzL xs = true := fun xs h => by
      rw [plNL_all] at h
      rw [isFzL_all]
      exact List.all_eq_true.mpr fun x hx => ih x (List.all_eq_true.mp h x hx)
    intro d h
    cases d with
    | tup xs => exact l xs (by simp [plN] at h; exact h.2)
    | lst m xs =>
      cases m with
      | true => simp [plN] at h
      | false => show (!false && isFzL xs) = true; rw [l xs (by simp [plN] at h; exact h.2)]; rfl
    | _ => first | rfl | (simp [plN] at h; done)
theorem plNL_fz {n : Nat} {xs : List D} (h : plNL n xs = true) : isFzL xs = true := by
  rw [plNL_all] at h
  rw [isFzL_all]
  exact List.all_eq_true.mpr fun x hx => plN_fz n x (List.all_eq_true.mp h x hx)
theorem plN_int (n : Nat) (i : Int) : plN n (.int i) = true := by cases n <;> rfl
theorem plN_str (n : Nat) (i : Cs) : plN n (.str i) = true := by cases n <;> rfl
theorem plN_bl (n : Nat) (i : Bool) : plN n (.bl i) = true := by cases n <;> rfl
theorem plN_tup {n : Nat} {xs : List D} (h1 : xs.length < 1000000) (h2 : plNL n xs = true) : plN (n + 1) (.tup xs) = true := by
  show (decide (xs.length < 1000000) && plNL n xs) = true
  rw [h2, decide_eq_true h1]
  rfl
theorem plN_lst {n : Nat} {xs : List D} (h1 : xs.length < 1000000) (h2 : plNL n xs = true) : plN (n + 1) (.lst false xs) = true := by
  show (!false && (decide (xs.length < 1000000) && plNL n xs)) = true
  rw [h2, decide_eq_true h1]
  rfl
theorem ded_plN (d : Dd) (n : Nat) : plN (n + 1) (dedD d) = true := by
  cases d with
  | sum x i s j r => exact plN_tup (by simp [dedL]) (by simp [dedL, plNL_all, plN_int, plN_str])
  | test i s j t => exact plN_tup (by simp [dedL]) (by simp [dedL, plNL_all, plN_int, plN_str, plN_bl])
theorem deds_plN {ds : List Dd} (h : ds.length < 1000000) {n : Nat} : plN (n + 2) (.lst false (ds.map dedD)) = true := by
  refine plN_lst (by simpa using h) ?_
  rw [plNL_all, List.all_map]
  exact List.all_eq_true.mpr fun d _ => ded_plN d n
end VL
namespace VL
open PySem PySem.Spec PyProof.Rows L2 VL
mutual
/-- nothing in it that stood before but numbers, texts, tuples -/
def newD : D → Bool
  | .non => true
  | .bl _ => true
  | .int _ => true
  | .str _ => true
  | .ty _ => true
  | .tup ds => newDL ds
  | .lst m ds => m && newDL ds
  | .dK m _ ds => m && newDL ds
  | .dT m _ ds => m && newDL ds
  | _ => false
def newDL : List D → Bool
  | [] => true
  | d :: ds => newD d && newDL ds
end
theorem newDL_all : ∀ ds : List D, newDL ds = ds.all newD
  | [] => by rw [newDL]; rfl
  | d :: ds => by rw [newDL, newDL_all ds, List.all_cons]
section
variable {K : PySem.W.Frag} {G1 G2 H : Hp}
mutual
theorem Rp.lend (hs : ∀ a vs, G1 a = some (.tup vs) → G2 a = some (.tup vs)) : ∀ {d : D} {v : V} {F : List Addr}, newD d = true → Rp K G1 H d v F → Rp K G2 H d v F
  | .hole, _, _, n, _ => by cases n
  | .val _, _, _, n, _ => by cases n
  | .pin _ _, _, _, n, _ => by cases n
  | .exn _ _ _ _, _, _, n, _ => by cases n
  | .ins _ _ _ _, _, _, n, _ => by cases n
  | .non, _, _, _, h => h
  | .bl _, _, _, _, h => h
  | .int _, _, _, _, h => h
  | .str _, _, _, _, h => h
  | .ty _, _, _, _, h => h
  | .tup ds, v, F, n, h => by
    obtain ⟨a, vs, e, s, r⟩ := h
    exact ⟨a, vs, e, hs _ _ s, RpL.lend hs (by simpa [newD] using n) r⟩
  | .lst false ds, v, F, n, _ => by simp [newD] at n
  | .lst true ds, v, F, n, h => by
    obtain ⟨a, vs, F', e, s, rfl, r⟩ := h
    exact ⟨a, vs, F', e, s, rfl, RpL.lend hs (by simpa [newD] using n) r⟩
  | .dK false ks ds, v, F, n, _ => by simp [newD] at n
  | .dK true ks ds, v, F, n, h => by
    obtain ⟨a, vs, F', e, s, rfl, l, nd, r⟩ := h
    exact ⟨a, vs, F', e, s, rfl, l, nd, RpL.lend hs (by simpa [newD] using n) r⟩
  | .dT false ks ds, v, F, n, _ => by simp [newD] at n
  | .dT true ks ds, v, F, n, h => by
    obtain ⟨a, vs, F', e, s, rfl, l, nd, r⟩ := h
    exact ⟨a, vs, F', e, s, rfl, l, nd, RpL.lend hs (by simpa [newD] using n) r⟩
theorem RpL.lend (hs : ∀ a vs, G1 a = some (.tup vs) → G2 a = some (.tup vs)) : ∀ {ds : List D} {vs : List V} {F : List Addr}, newDL ds = true → RpL K G1 H ds vs F → RpL K G2 H ds vs F
  | [], _, _, _, h => h
  | d :: ds, vs, F, n, h => by
    obtain ⟨v, vs', F1, F2, rfl, rfl, r, rs⟩ := h
    have n2 : newD d = true ∧ newDL ds = true := by simpa [newDL] using n
    exact ⟨v, vs', F1, F2, rfl, rfl, Rp.lend hs n2.1 r, RpL.lend hs n2.2 rs⟩
end
end
def lendG (G G1 : Hp) : Hp := fun a => match G a with
  | some o => some o
  | none => match G1 a with
    | some (.tup vs) => some (.tup vs)
    | _ => none
theorem lendG_l {G G1 : Hp} {a : Addr} {o : HO} (h : G a = some o) : lendG G G1 a = some o := by unfold lendG; rw [h]
theorem lendG_cases {G G1 : Hp} {a : Addr} {o : HO} (h : lendG G G1 a = some o) : G a = some o ∨ (G a = none ∧ ∃ vs, o = .tup vs ∧ G1 a = some (.tup vs)) := by
  unfold lendG at h
  split at h
  · next e => exact .inl (e.trans h)
  · next e =>
    split at h
    · next vs e2 => cases h; exact .inr ⟨e, vs, rfl, e2⟩
    · cases h
section
variable {K : PySem.W.Frag} {b : Bs} {σ : L2.St} {H H' : Hp} {ε : Ep} {T : List D} {Tv : List V}
theorem SI.lend (I : SI K b σ H ε T Tv) {ds : List D} {vs : List V} {r : D} {v : V} (I' : SI K (callB H H []) [] H' [] (ds ++ [r]) (vs ++ [v])) (hl : ds.length = vs.length) (hz : newD r = true) : SI K b σ H' ε (T ++ [r]) (Tv ++ [v]) := by
  obtain ⟨G, F, Ft, J⟩ := I
  obtain ⟨G1, Fs, Ft', J'⟩ := I'
  obtain ⟨_, rfl⟩ := J'.slots
  obtain ⟨F1, F2, rfl, _, r2⟩ := J'.temps.split2 hl
  have r2 := RpL.one.mp r2
  have keep : ∀ a o, H a = some o → H' a = some o := fun a o e => J'.keep a o e fun z => nomatch z
  have new : ∀ a ∈ F2, H a = none := fun a z => by
    rcases J'.own a (by simp [z]) with h | h
    · exact nomatch h
    · exact h
  have there : ∀ a ∈ F ++ Ft, ∃ o, H a = some o ∧ Mut (some o) := fun a z => by
    rcases List.mem_append.mp z with z | z
    · exact J.slots.there a z
    · exact J.temps.there a z
  have same : ∀ a ∈ F ++ Ft, H' a = H a := fun a z => by
    obtain ⟨o, e, _⟩ := there a z
    rw [e, keep a o e]
  have sg : Sub G (lendG G G1) := fun a o e => lendG_l e
  have tp : ∀ a vs, G1 a = some (.tup vs) → lendG G G1 a = some (.tup vs) := fun a vs e => by
    cases h : G a with
    | none => unfold lendG; rw [h, e]
    | some o =>
      have h1 := J'.s0 a o (J.sub a o h)
      rw [e] at h1
      cases h1
      exact lendG_l h
  refine ⟨lendG G G1, F, Ft ++ F2, J.s0.trans sg, fun a o e => ?_, J.slots.mono sg fun a z => same a (List.mem_append_left _ z), (J.temps.mono sg fun a z => same a (List.mem_append_right _ z)).append (RpL.one.mpr (Rp.lend tp hz r2)), ?_, fun a z => ?_, fun a z => ?_, fun a o e => ?_, fun a o e n => keep a o (J.keep a o e n), J.kept⟩
  · rcases lendG_cases e with h | ⟨_, vs, rfl, h2⟩
    · exact keep a o (J.sub a o h)
    · exact J'.sub a _ h2
  · rw [← List.append_assoc]
    refine List.nodup_append.mpr ⟨J.nd, ?_, fun a z c hc e => ?_⟩
    · have := J'.nd
      rw [List.nil_append] at this
      exact (List.nodup_append.mp this).2.1
    · subst e
      obtain ⟨o, e, _⟩ := there a z
      rw [new a hc] at e
      cases e
  · rw [← List.append_assoc] at z
    rcases List.mem_append.mp z with z | z
    · have g0 := J.fr a z
      cases h : lendG G G1 a with
      | none => rfl
      | some o =>
        rcases lendG_cases h with h | ⟨_, vs, rfl, h2⟩
        · rw [g0] at h; cases h
        · have h1 := J'.sub a _ h2
          rw [same a z] at h1
          obtain ⟨o, e, m⟩ := there a z
          rw [h1] at e
          cases e
          exact m.elim
    · cases h : lendG G G1 a with
      | none => rfl
      | some o =>
        rcases lendG_cases h with h | ⟨_, vs, rfl, h2⟩
        · have := J.sub a o h
          rw [new a z] at this
          cases this
        · rw [J'.fr a (by simp [z])] at h2
          cases h2
  · rw [← List.append_assoc] at z
    rcases List.mem_append.mp z with z | z
    · exact J.own a z
    · exact J.h0 (new a z)
  · rcases lendG_cases e with h | ⟨_, vs, rfl, h2⟩
    · exact J.gn a o h
    · exact .inr (.inr (.inr ⟨vs, rfl⟩))
end
section
variable {X : Cv}
def vLend (vsp : VSp) (t : VTVs) : VTE := fun N ε Q => t ε fun ds => vsp ds (fun r ds' => newD r = true ∧ Q r ε) (fun cls row ds' => newD row = true ∧ N cls row ε)
theorem ve_lend {x : Str} {p pos : Pos} {e : Expr} {es : List Expr} {t : VTVs} {k n : Nat} {vsp : VSp} (F : Fv X.prog X.w X.K X.mg X.base x k n vsp) (m : Mono vsp) (hr : Room k X.A) (hg : Gl X.toCx x) (hn : (e :: es).length = n) (ha : VVs X (e :: es) t)
    (hdb : (x == ("__debug__" : Str)) = false := by decide) (he : starEach (e :: es) X.env = (false, eval e X.env) :: starEach es X.env := by rfl) (hpl : (backTo pos (starEach es X.env)).any (·.1) = false := by rfl) :
    VE X (.Call (.Name x p) (e :: es) [] pos) (vLend vsp t) := by
  obtain ⟨f, fd, ps, hm, hk, hb, F⟩ := F.ex
  obtain ⟨t', a1, a2⟩ := ha.ex
  refine ⟨fun W => tCallS (Lift X.K n vsp) (WE W) (t' W), fun W tk => pe_callS F hr hg hm hk hb (fun σ => passAt tk σ) (a1 W tk) hdb he hpl, fun b σ H ε T Tv W N Q Q' I q kk x => ?_⟩
  refine a2 b σ H ε T Tv W _ _ I q fun ds vs H1 s1 rr l z => ?_
  have I1 := I.grow s1
  have ll : ∀ {ds' : List D} {d : D} {v : V} {H' : Hp}, SI X.K (callB H1 H1 []) [] H' [] (ds' ++ [d]) (vs ++ [v]) → ds'.length = vs.length := fun I' => by
    have := I'.lenT
    simpa using this
  refine ⟨H1, [], ds, si_view rr, by rw [l, hn], m _ _ _ _ _ (fun r ds' q' v H' I' => ?_) (fun cls row ds' q' dd v H' I' e fr => ?_) z⟩
  · exact kk r v ε H' (I1.lend I' (ll I') q'.1) q'.2
  · refine x cls dd σ H' ε row v (I1.lend I' (ll I') q'.1) e ?_ q'.2
    rcases fr with h | h
    · exact nomatch h
    · obtain ⟨_, _, _, J⟩ := I1
      exact J.h0 h
end
end VL
namespace VL
open PySem PySem.Spec PyProof.Rows L2 VL
end VL
namespace VL
open PySem PySem.Spec PyProof.Rows L2 PySem.W
/-- below 2 ^ B either way -/
abbrev Bd (B : Nat) (i : Int) : Prop := i.natAbs < 2 ^ B
def MemB (B : Nat) (M : Mem) : Prop := ∀ p ∈ M, Bd B p.2
def OpB (B : Nat) : Opd → Prop
  | .inl i => Bd B i
  | .inr _ => True
end VL
namespace VL
open PySem PySem.Spec PyProof.Rows L2 VL
abbrev cRest : Cs := [114, 101, 115, 116]
def signOk (s : Cs) : Prop := s = [43] ∨ s = [45] ∨ s = [47] ∨ s = cRest ∨ s = [38] ∨ s = [94]
def testOk (s : Cs) : Prop := s = [60] ∨ s = [61]
/-- the deed of a row; none: refused -/
def deedR (M : Mem) : Rw → Option Dd
  | .sum _ x a s b => (madeV s (worthM M a) (worthM M b)).map fun v => .sum x (worthM M a) s (worthM M b) v
  | .test _ a s b _ => some (.test (worthM M a) s (worthM M b) (holdsV s (worthM M a) (worthM M b)))
  | _ => none
theorem cutL_maps {α β : Type} (f : α → β) (xs : List α) (lo hi : Option Int) : cutL (xs.map f) lo hi = (cutL xs lo hi).map f := by
  unfold cutL
  rw [List.length_map, List.map_take, List.map_drop]
theorem slice_script (ns : List Int) (lo hi : Option Int) : sliceD (scriptD ns) lo hi = some (.lst true ((cutL ns lo hi).map D.int)) := by
  show (if isFzL (ns.map D.int) = true then some (D.lst true (cutL (ns.map D.int) lo hi)) else none) = _
  rw [if_pos (show isFzL (ns.map D.int) = true from script_fz ns), cutL_maps]
theorem frz_ints (ns : List Int) : frzL (ns.map D.int) = ns.map D.int := frzL_id (show isFzL (ns.map D.int) = true from script_fz ns)
theorem new_dd (d : Dd) : newD (dedD d) = true := by cases d <;> rfl
theorem new_dds (ds : List Dd) : newDL (ds.map dedD) = true := by rw [newDL_all]; simp [new_dd]
theorem new_mm (M : Mem) : newD (mmD true M) = true := by
  show (true && newDL (M.map fun p : Cs × Int => D.int p.2)) = true
  rw [newDL_all]
  simp [newD]
theorem new_told (r : Told) : newD (toldD r) = true := by
  show newDL [.lst true (r.1.map dedD), .str r.2.1, mmD true r.2.2] = true
  show ((true && newDL (r.1.map dedD)) && (true && (newD (mmD true r.2.2) && true))) = true
  rw [new_dds, new_mm]
  rfl
end VL
namespace VL
open PySem PySem.Spec PyProof.Rows L2 VL
/-- along jumps to what is none; none: round and round -/
def folJ (nx : Nat → Option Nat) : Nat → Nat → Option Nat
  | 0, _ => none
  | f + 1, p => match nx p with
    | none => some p
    | some b => folJ nx f b
def fol (rs : List Rw) (p : Nat) : Option Nat := folJ (nxJ rs) (rs.length + 1) p
theorem folJ_none {nx : Nat → Option Nat} {f p : Nat} (h : nx p = none) : folJ nx (f + 1) p = some p := by
  show (match nx p with | none => some p | some b => folJ nx f b) = _
  rw [h]
theorem folJ_some {nx : Nat → Option Nat} {f p b : Nat} (h : nx p = some b) : folJ nx (f + 1) p = folJ nx f b := by
  show (match nx p with | none => some p | some b => folJ nx f b) = _
  rw [h]
theorem folJ_end {nx : Nat → Option Nat} : ∀ {f p q : Nat}, folJ nx f p = some q → nx q = none
  | 0, _, _, h => nomatch h
  | f + 1, p, q, h => by
    cases e : nx p with
    | none => rw [folJ_none e] at h; cases h; exact e
    | some b => rw [folJ_some e] at h; exact folJ_end h
/-- n steps of jumps -/
def itJ (nx : Nat → Option Nat) : Nat → Nat → Option Nat
  | 0, p => some p
  | n + 1, p => (nx p).bind (itJ nx n)
theorem itJ_add {nx : Nat → Option Nat} : ∀ {n m p q : Nat}, itJ nx n p = some q → itJ nx (n + m) p = itJ nx m q
  | 0, m, p, q, h => by cases h; rw [Nat.zero_add]
  | n + 1, m, p, q, h => by
    rw [Nat.succ_add]
    show (nx p).bind (itJ nx (n + m)) = _
    cases e : nx p with
    | none =>
      have h : (nx p).bind (itJ nx n) = some q := h
      rw [e] at h; cases h
    | some b =>
      have h : (nx p).bind (itJ nx n) = some q := h
      rw [e] at h
      exact itJ_add (p := b) h
theorem fol_end {rs : List Rw} {p q : Nat} (h : fol rs p = some q) : nxJ rs q = none := folJ_end h
theorem fol_self {rs : List Rw} {p : Nat} (h : nxJ rs p = none) : fol rs p = some p := folJ_none h
theorem fol_twice {rs : List Rw} {p q : Nat} (h : fol rs p = some q) : fol rs q = some q := fol_self (fol_end h)
/-- a run from a place, of at most so many deeds: the deeds, the word, the memory, where it came to -/
inductive MR (rs : List Rw) : Nat → Nat → Mem → List Dd → Cs → Mem → Option Nat → Prop
  | ring {m p : Nat} {M : Mem} : fol rs p = none → MR rs m p M [] cOn M none
  | fin {m p q n : Nat} {M : Mem} : fol rs p = some q → rs[q]? = some (.fin n) → MR rs m p M [] cEnd M (some q)
  | full {p q : Nat} {r : Rw} {M : Mem} : fol rs p = some q → rs[q]? = some r → r.falls = true → MR rs 0 p M [] cOn M (some q)
  | fault {m p q : Nat} {r : Rw} {M : Mem} : fol rs p = some q → rs[q]? = some r → r.falls = true → deedR M r = none → MR rs (m + 1) p M [] cFault M (some q)
  | sum {m p q n : Nat} {x s : Cs} {a b : Opd} {v : Int} {M M' : Mem} {ds : List Dd} {w : Cs} {z : Option Nat} : fol rs p = some q → rs[q]? = some (.sum n x a s b) → madeV s (worthM M a) (worthM M b) = some v →
      MR rs m (q + 1) (putM M x v) ds w M' z → MR rs (m + 1) p M (.sum x (worthM M a) s (worthM M b) v :: ds) w M' z
  | test {m p q n to : Nat} {s : Cs} {a b : Opd} {M M' : Mem} {ds : List Dd} {w : Cs} {z : Option Nat} : fol rs p = some q → rs[q]? = some (.test n a s b to) →
      MR rs m (if holdsV s (worthM M a) (worthM M b) = true then (nums rs).idxOf to else q + 1) M ds w M' z → MR rs (m + 1) p M (.test (worthM M a) s (worthM M b) (holdsV s (worthM M a) (worthM M b)) :: ds) w M' z
section
variable {rs : List Rw}
/-- only one answer -/
theorem MR.one {m p : Nat} {M : Mem} {ds ds' : List Dd} {w w' : Cs} {M1 M2 : Mem} {z z' : Option Nat} (h : MR rs m p M ds w M1 z) (k : MR rs m p M ds' w' M2 z') : ds = ds' ∧ w = w' ∧ M1 = M2 ∧ z = z' := by
  induction h generalizing ds' w' M2 z' with
  | ring h =>
    cases k with
    | ring _ => exact ⟨rfl, rfl, rfl, rfl⟩
    | fin e _ => rw [h] at e; cases e
    | full e _ _ => rw [h] at e; cases e
    | fault e _ _ _ => rw [h] at e; cases e
    | sum e _ _ _ => rw [h] at e; cases e
    | test e _ _ => rw [h] at e; cases e
  | fin h h2 =>
    cases k with
    | ring e => rw [h] at e; cases e
    | fin e _ => rw [h] at e; cases e; exact ⟨rfl, rfl, rfl, rfl⟩
    | full e e2 e3 => rw [h] at e; cases e; rw [h2] at e2; cases e2; cases e3
    | fault e e2 e3 _ => rw [h] at e; cases e; rw [h2] at e2; cases e2; cases e3
    | sum e e2 _ _ => rw [h] at e; cases e; rw [h2] at e2; cases e2
    | test e e2 _ => rw [h] at e; cases e; rw [h2] at e2; cases e2
  | full h h2 h3 =>
    cases k with
    | ring e => rw [h] at e; cases e
    | fin e e2 => rw [h] at e; cases e; rw [h2] at e2; cases e2; cases h3
    | full e _ _ => rw [h] at e; cases e; exact ⟨rfl, rfl, rfl, rfl⟩
  | fault h h2 h3 h4 =>
    cases k with
    | ring e => rw [h] at e; cases e
    | fin e e2 => rw [h] at e; cases e; rw [h2] at e2; cases e2; cases h3
    | fault e _ _ _ => rw [h] at e; cases e; exact ⟨rfl, rfl, rfl, rfl⟩
    | sum e e2 e3 _ => rw [h] at e; cases e; rw [h2] at e2; cases e2; simp [deedR, e3] at h4
    | test e e2 _ => rw [h] at e; cases e; rw [h2] at e2; cases e2; simp [deedR] at h4
  | sum h h2 h3 _ ih =>
    cases k with
    | ring e => rw [h] at e; cases e
    | fin e e2 => rw [h] at e; cases e; rw [h2] at e2; cases e2
    | fault e e2 e3 e4 => rw [h] at e; cases e; rw [h2] at e2; cases e2; simp [deedR, h3] at e4
    | sum e e2 e3 r =>
      rw [h] at e; cases e; rw [h2] at e2; cases e2; rw [h3] at e3; cases e3
      obtain ⟨rfl, rfl, rfl, rfl⟩ := ih r
      exact ⟨rfl, rfl, rfl, rfl⟩
    | test e e2 _ => rw [h] at e; cases e; rw [h2] at e2; cases e2
  | test h h2 _ ih =>
    cases k with
    | ring e => rw [h] at e; cases e
    | fin e e2 => rw [h] at e; cases e; rw [h2] at e2; cases e2
    | fault e e2 e3 e4 => rw [h] at e; cases e; rw [h2] at e2; cases e2; simp [deedR] at e4
    | sum e e2 e3 r => rw [h] at e; cases e; rw [h2] at e2; cases e2
    | test e e2 r =>
      rw [h] at e; cases e; rw [h2] at e2; cases e2
      obtain ⟨rfl, rfl, rfl, rfl⟩ := ih r
      exact ⟨rfl, rfl, rfl, rfl⟩
theorem MR.len {m p : Nat} {M : Mem} {ds : List Dd} {w : Cs} {M1 : Mem} {z : Option Nat} (h : MR rs m p M ds w M1 z) : ds.length ≤ m := by
  induction h with
  | sum _ _ _ _ ih => simpa using ih
  | test _ _ _ ih => simpa using ih
  | _ => simp
theorem MR.from {m p q : Nat} {M M1 : Mem} {ds : List Dd} {w : Cs} {z : Option Nat} (h : MR rs m q M ds w M1 z) (hf : fol rs p = fol rs q) : MR rs m p M ds w M1 z := by
  cases h with
  | ring h => exact .ring (hf.trans h)
  | fin h h2 => exact .fin (hf.trans h) h2
  | full h h2 h3 => exact .full (hf.trans h) h2 h3
  | fault h h2 h3 h4 => exact .fault (hf.trans h) h2 h3 h4
  | sum h h2 h3 r => exact .sum (hf.trans h) h2 h3 r
  | test h h2 r => exact .test (hf.trans h) h2 r
theorem MR.on {m p q : Nat} {M M1 : Mem} {ds : List Dd} {w : Cs} (h : MR rs m p M ds w M1 (some q)) {j : Nat} {ds2 : List Dd} {w2 : Cs} {M2 : Mem} {z2 : Option Nat} (k : MR rs (j + 1) q M1 ds2 w2 M2 z2) : MR rs (m + (j + 1)) p M (ds ++ ds2) w2 M2 z2 := by
  generalize hz : some q = z at h
  induction h with
  | ring _ => cases hz
  | fin h h2 =>
    cases hz
    have k2 := k.one (.fin (fol_twice h) h2)
    obtain ⟨rfl, rfl, rfl, rfl⟩ := k2
    exact .fin h h2
  | full h h2 h3 =>
    cases hz
    rw [Nat.zero_add]
    exact k.from (h.trans (fol_twice h).symm)
  | fault h h2 h3 h4 =>
    cases hz
    have k2 := k.one (.fault (fol_twice h) h2 h3 h4)
    obtain ⟨rfl, rfl, rfl, rfl⟩ := k2
    rw [Nat.succ_add]
    exact .fault h h2 h3 h4
  | sum h1 h2 h3 _ ih =>
    rw [Nat.succ_add]
    exact .sum h1 h2 h3 (ih k hz)
  | test h1 h2 _ ih =>
    rw [Nat.succ_add]
    exact .test h1 h2 (ih k hz)
end
end VL
namespace VL
open PySem PySem.Spec PyProof.Rows L2 VL
end VL
namespace VL
open PySem PySem.Spec PyProof.Rows L2 VL
theorem ded_frz (d : Dd) : frz (dedD d) = dedD d := frz_id (ded_fz d)
theorem rwD_frz (r : Rw) : frz (rwD r) = rwD r := frz_id (rwD_fz r)
section
variable {rs : List Rw}
/-- where a run ended -/
theorem MR.last {m p : Nat} {M : Mem} {ds : List Dd} {w : Cs} {M1 : Mem} {z : Option Nat} (h : MR rs m p M ds w M1 z) :
    (z = none ∧ w = cOn) ∨ (∃ q n, z = some q ∧ rs[q]? = some (.fin n) ∧ w = cEnd) ∨ ∃ q r, z = some q ∧ rs[q]? = some r ∧ r.falls = true ∧ ((ds.length = m ∧ w = cOn) ∨ (ds.length < m ∧ deedR M1 r = none ∧ w = cFault)) := by
  induction h with
  | ring _ => exact .inl ⟨rfl, rfl⟩
  | fin _ h2 => exact .inr (.inl ⟨_, _, rfl, h2, rfl⟩)
  | full _ h2 h3 => exact .inr (.inr ⟨_, _, rfl, h2, h3, .inl ⟨rfl, rfl⟩⟩)
  | fault _ h2 h3 h4 => exact .inr (.inr ⟨_, _, rfl, h2, h3, .inr ⟨Nat.succ_pos _, h4, rfl⟩⟩)
  | sum _ _ _ _ ih =>
    rcases ih with h | h | ⟨q, r, h1, h2, h3, h4⟩
    · exact .inl h
    · exact .inr (.inl h)
    · refine .inr (.inr ⟨q, r, h1, h2, h3, ?_⟩)
      rcases h4 with ⟨h, e⟩ | ⟨h, e⟩
      · exact .inl ⟨by simp [h], e⟩
      · exact .inr ⟨by simpa using h, e⟩
  | test _ _ _ ih =>
    rcases ih with h | h | ⟨q, r, h1, h2, h3, h4⟩
    · exact .inl h
    · exact .inr (.inl h)
    · refine .inr (.inr ⟨q, r, h1, h2, h3, ?_⟩)
      rcases h4 with ⟨h, e⟩ | ⟨h, e⟩
      · exact .inl ⟨by simp [h], e⟩
      · exact .inr ⟨by simpa using h, e⟩
end
end VL
namespace VL
open PySem PySem.Spec PyProof.Rows L2 VL
end VL
namespace VL
open PySem PySem.Spec PyProof.Rows L2 VL
abbrev cIf : Cs := [105, 102]
abbrev cElse : Cs := [101, 108, 115, 101]
abbrev cDone : Cs := [100, 111, 110, 101]
abbrev cRound : Cs := [114, 111, 117, 110, 100]
abbrev cPart : Cs := [112, 97, 114, 116]
abbrev cLeave : Cs := [108, 101, 97, 118, 101]
abbrev cAgain : Cs := [97, 103, 97, 105, 110]
abbrev cChoice : Cs := [99, 104, 111, 105, 99, 101]
inductive Ln where
  | sum (x : Cs) (a : Opd) (s : Cs) (b : Opd)
  | iff (a : Opd) (s : Cs) (b : Opd)
  | els
  | done
  | round (n : Int)
  | part (n : Int)
  | leave (n : Int)
  | again (n : Int)
  | fin
def lnL : Ln → List D
  | .sum x a s b => [.str cSum, .str x, opD a, .str s, opD b]
  | .iff a s b => [.str cIf, opD a, .str s, opD b]
  | .els => [.str cElse]
  | .done => [.str cDone]
  | .round n => [.str cRound, .int n]
  | .part n => [.str cPart, .int n]
  | .leave n => [.str cLeave, .int n]
  | .again n => [.str cAgain, .int n]
  | .fin => [.str cEnd]
def lnD (l : Ln) : D := .tup (lnL l)
theorem ln_fzL (l : Ln) : isFzL (lnL l) = true := by cases l <;> simp [lnL, isFzL, isFz, opD_fz]
theorem ln_fz (l : Ln) : isFz (lnD l) = true := ln_fzL l
theorem ln_frz (l : Ln) : frz (lnD l) = lnD l := frz_id (ln_fz l)
theorem lns_fz (L : List Ln) : isFzL (L.map lnD) = true := by rw [isFzL_all]; simp [ln_fz]
theorem lns_frz (L : List Ln) : frzL (L.map lnD) = L.map lnD := frzL_id (lns_fz L)
/-- what is open -/
inductive Tk where
  | iff
  | els
  | rnd (n : Int)
  | prt (n : Int)
def tkD : Tk → D
  | .iff => .tup [.str cIf, .int (-1)]
  | .els => .tup [.str cElse, .int (-1)]
  | .rnd n => .tup [.str cRound, .int n]
  | .prt n => .tup [.str cPart, .int n]
theorem tk_fz (k : Tk) : isFz (tkD k) = true := by cases k <;> rfl
theorem tks_fz (st : List Tk) : isFzL (st.map tkD) = true := by rw [isFzL_all]; simp [tk_fz]
theorem tks_frz (st : List Tk) : frzL (st.map tkD) = st.map tkD := frzL_id (tks_fz st)
/-- open ones as Python has them: the innermost last -/
def stD (st : List Tk) : List D := st.reverse.map tkD
theorem std_fz (st : List Tk) : isFzL (stD st) = true := tks_fz _
theorem std_frz (st : List Tk) : frzL (stD st) = stD st := tks_frz _
theorem std_len (st : List Tk) : (stD st).length = st.length := by simp [stD]
def stepT (st : List Tk) : Ln → Option (List Tk)
  | .iff _ _ _ => some (.iff :: st)
  | .round n => some (.rnd n :: st)
  | .part n => some (.prt n :: st)
  | .els => match st with
    | .iff :: t => some (.els :: t)
    | _ => none
  | .done => match st with
    | _ :: t => some t
    | [] => none
  | _ => some st
def home (st : List Tk) (n : Int) : Prop := Tk.rnd n ∈ st ∨ Tk.prt n ∈ st
def okT (st : List Tk) : Ln → Prop
  | .iff _ _ _ => st.length < 60
  | .round _ => st.length < 60
  | .part _ => st.length < 60
  | .leave n => home st n
  | .again n => Tk.rnd n ∈ st
  | _ => True
inductive RunsP (P : List Tk → Ln → Prop) : List Tk → List Ln → List Tk → Prop
  | nil {st : List Tk} : RunsP P st [] st
  | cons {st st1 st2 : List Tk} {l : Ln} {L : List Ln} : stepT st l = some st1 → P st l → RunsP P st1 L st2 → RunsP P st (l :: L) st2
theorem RunsP.mono {P P' : List Tk → Ln → Prop} (h : ∀ st l, P st l → P' st l) {st st' : List Tk} {L : List Ln} (r : RunsP P st L st') : RunsP P' st L st' := by
  induction r with
  | nil => exact .nil
  | cons e p _ ih => exact .cons e (h _ _ p) ih
theorem RunsP.app {P : List Tk → Ln → Prop} {a b c : List Tk} {L M : List Ln} (h : RunsP P a L b) (k : RunsP P b M c) : RunsP P a (L ++ M) c := by
  induction h with
  | nil => exact k
  | cons e p _ ih => exact .cons e p (ih k)
theorem RunsP.snoc {P : List Tk → Ln → Prop} {a b c : List Tk} {L : List Ln} {l : Ln} (h : RunsP P a L b) (e : stepT b l = some c) (p : P b l) : RunsP P a (L ++ [l]) c := h.app (.cons e p .nil)
inductive Fm where
  | sum (x : Cs) (a : Opd) (s : Cs) (b : Opd)
  | choice (a : Opd) (s : Cs) (b : Opd) (yes no : List Fm) (e : Bool)
  | round (n : Int) (body : List Fm)
  | part (n : Int) (body : List Fm)
  | leave (n : Int)
  | again (n : Int)
  | fin
mutual
def lnsF : Fm → List Ln
  | .sum x a s b => [.sum x a s b]
  | .choice a s b y n e => .iff a s b :: (lnsL y ++ ((if e = true then .els :: lnsL n else []) ++ [.done]))
  | .round n b => .round n :: (lnsL b ++ [.done])
  | .part n b => .part n :: (lnsL b ++ [.done])
  | .leave n => [.leave n]
  | .again n => [.again n]
  | .fin => [.fin]
def lnsL : List Fm → List Ln
  | [] => []
  | f :: fs => lnsF f ++ lnsL fs
end
mutual
def fmD : Fm → D
  | .sum x a s b => .tup [.str cSum, .str x, opD a, .str s, opD b]
  | .choice a s b y n e => .tup [.str cChoice, opD a, .str s, opD b, .lst false (fmsD y), .lst false (if e = true then fmsD n else [])]
  | .round n b => .tup [.str cRound, .int n, .lst false (fmsD b)]
  | .part n b => .tup [.str cPart, .int n, .lst false (fmsD b)]
  | .leave n => .tup [.str cLeave, .int n]
  | .again n => .tup [.str cAgain, .int n]
  | .fin => .tup [.str cEnd]
def fmsD : List Fm → List D
  | [] => []
  | f :: fs => fmD f :: fmsD fs
end
mutual
/-- how deep: a list without lists is 1 deep -/
def dpF : Fm → Nat
  | .choice _ _ _ y n e => max (dpL y) (if e = true then dpL n else 0) + 1
  | .round _ b => dpL b + 1
  | .part _ b => dpL b + 1
  | _ => 0
def dpL : List Fm → Nat
  | [] => 0
  | f :: fs => max (dpF f) (dpL fs)
end
theorem fmsD_map : ∀ fs : List Fm, fmsD fs = fs.map fmD
  | [] => by rw [fmsD]; rfl
  | f :: fs => by rw [fmsD, fmsD_map fs, List.map_cons]
theorem lnsL_flat : ∀ fs : List Fm, lnsL fs = fs.flatMap lnsF
  | [] => by rw [lnsL]; rfl
  | f :: fs => by rw [lnsL, lnsL_flat fs, List.flatMap_cons]
theorem lnsL_app (fs gs : List Fm) : lnsL (fs ++ gs) = lnsL fs ++ lnsL gs := by rw [lnsL_flat, lnsL_flat, lnsL_flat, List.flatMap_append]
mutual
theorem fm_fz : ∀ f : Fm, isFz (fmD f) = true
  | .sum x a s b => by simp [fmD, isFz, isFzL, opD_fz]
  | .choice a s b y n e => by
    have h1 := fms_fz y
    have h2 := fms_fz n
    rw [fmD]
    cases e <;> simp [isFz, isFzL, opD_fz, h1, h2]
  | .round n b => by
    have h1 := fms_fz b
    simp [fmD, isFz, isFzL, h1]
  | .part n b => by
    have h1 := fms_fz b
    simp [fmD, isFz, isFzL, h1]
  | .leave n => by simp [fmD, isFz, isFzL]
  | .again n => by simp [fmD, isFz, isFzL]
  | .fin => by simp [fmD, isFz, isFzL]
theorem fms_fz : ∀ fs : List Fm, isFzL (fmsD fs) = true
  | [] => by rw [fmsD]; rfl
  | f :: fs => by
    rw [fmsD]
    show (isFz (fmD f) && isFzL (fmsD fs)) = true
    rw [fm_fz f, fms_fz fs]
    rfl
end
theorem fms_frz (fs : List Fm) : frzL (fmsD fs) = fmsD fs := frzL_id (fms_fz fs)
theorem fm_frz (f : Fm) : frz (fmD f) = fmD f := frz_id (fm_fz f)
end VL
namespace VL
open PySem PySem.Spec PyProof.Rows L2 VL
def isLet (c : Nat) : Bool := decide (97 ≤ c ∧ c ≤ 122)
def isLd (c : Nat) : Bool := isLet c || decide (48 ≤ c ∧ c ≤ 57)
def keptW : List Cs := [[105, 102], [106, 117, 109, 112], [101, 110, 100], [114, 101, 115, 116], [114, 111, 117, 110, 100], [112, 97, 114, 116], [108, 101, 97, 118, 101], [97, 103, 97, 105, 110], [101, 108, 115, 101], [100, 111, 110, 101]]
/-- a letter ahead, then letters and figures -/
def wordOk (s : Cs) : Prop := (∃ c t, s = c :: t ∧ isLet c = true) ∧ ∀ c ∈ s, isLd c = true
def NameOk (s : Cs) : Prop := wordOk s ∧ s.length ≤ 8 ∧ s ∉ keptW
def OpdOk : Opd → Prop
  | .inl i => i.natAbs < 1000000000000000000
  | .inr s => NameOk s
theorem opd_bd {a : Opd} (h : OpdOk a) : OpB 61 a := by
  cases a with
  | inl i =>
    have h : i.natAbs < 1000000000000000000 := h
    show i.natAbs < 2 ^ 61
    omega
  | inr s => trivial
def LnOk : Ln → Prop
  | .sum x a s b => NameOk x ∧ OpdOk a ∧ signOk s ∧ OpdOk b
  | .iff a s b => OpdOk a ∧ testOk s ∧ OpdOk b
  | _ => True
/-- the numbers of rounds and parts -/
def homes : List Ln → List Int
  | [] => []
  | .round n :: L => n :: homes L
  | .part n :: L => n :: homes L
  | _ :: L => homes L
theorem homes_app (L M : List Ln) : homes (L ++ M) = homes L ++ homes M := by
  induction L with
  | nil => rfl
  | cons l L ih => cases l <;> simp [homes, ih]
/-- lines as they are drawn, up to so many -/
structure GenOk (L : List Ln) : Prop where
  runs : RunsP okT [] L []
  ln : ∀ l ∈ L, LnOk l
  nd : (homes L).Nodup
  rng : ∀ n ∈ homes L, 0 ≤ n ∧ n ≤ 9999
  few : L.length ≤ 121
def rawI (ns : List Int) (k : Int) : Int := if ns.length = 0 then k else ns.getD (k % (ns.length : Int)).toNat 0
def mixI (ns : List Int) (k : Int) : Int := if ns.length = 0 then (k * k + 3) * 48271 % 2147483647 else
  (rawI ns k % 2147483629 + 2) * (48271 + 7 * (k / (ns.length : Int)) * (k / (ns.length : Int))) % 2147483647
end VL
namespace VL
open PySem PySem.Spec PyProof.Rows L2 VL
/-- what a drawn line keeps: the rounds and parts that are open -/
def hm (f k : Int) : Int := (f + 97 * k) % 10000
theorem hm_rng (f k : Int) : 0 ≤ hm f k ∧ hm f k ≤ 9999 := by
  unfold hm
  have h1 := Int.emod_nonneg (f + 97 * k) (show (10000 : Int) ≠ 0 by decide)
  have h2 := Int.emod_lt_of_pos (f + 97 * k) (show (0 : Int) < 10000 by decide)
  omega
theorem hm_inj {f : Int} {i j : Nat} (hi : i < 1000) (hj : j < 1000) (h : hm f (i : Int) = hm f (j : Int)) : i = j := by
  unfold hm at h
  omega
/-- k steps are done -/
structure GSt (f : Int) (k : Nat) (L : List Ln) (st : List Tk) : Prop where
  runs : RunsP okT [] L st
  ln : ∀ l ∈ L, LnOk l
  hs : ∃ js : List Nat, homes L = js.map (fun j : Nat => hm f (j : Int)) ∧ js.Pairwise (· < ·) ∧ ∀ j ∈ js, j < k
  len : L.length = k
  few : st.length ≤ 60
  pos : ∀ n, home st n → 0 ≤ n
/-- one line more -/
structure GLn (f : Int) (k : Nat) (st : List Tk) (l : Ln) (st' : List Tk) : Prop where
  step : stepT st l = some st'
  ok : okT st l
  ln : LnOk l
  hm : homes [l] = [] ∨ homes [l] = [hm f (k : Int)]
theorem stepT_len {st st' : List Tk} {l : Ln} (h : stepT st l = some st') (ho : okT st l) (hl : st.length ≤ 60) : st'.length ≤ 60 := by
  cases l with
  | iff a s b => cases h; have : st.length < 60 := ho; simp; omega
  | round n => cases h; have : st.length < 60 := ho; simp; omega
  | part n => cases h; have : st.length < 60 := ho; simp; omega
  | els =>
    cases st with
    | nil => cases h
    | cons k t => cases k <;> cases h; simpa using hl
  | done =>
    cases st with
    | nil => cases h
    | cons k t => cases h; simp at hl; omega
  | _ => cases h; exact hl
theorem stepT_home {st st' : List Tk} {l : Ln} (h : stepT st l = some st') {n : Int} (hn : home st' n) : home st n ∨ n ∈ homes [l] := by
  cases l with
  | iff a s b =>
    cases h
    rcases hn with hn | hn
    · exact .inl (.inl (by simpa using hn))
    · exact .inl (.inr (by simpa using hn))
  | round m =>
    cases h
    rcases hn with hn | hn
    · rcases List.mem_cons.mp hn with e | hn
      · cases e; exact .inr (by simp [homes])
      · exact .inl (.inl hn)
    · exact .inl (.inr (by simpa using hn))
  | part m =>
    cases h
    rcases hn with hn | hn
    · exact .inl (.inl (by simpa using hn))
    · rcases List.mem_cons.mp hn with e | hn
      · cases e; exact .inr (by simp [homes])
      · exact .inl (.inr hn)
  | els =>
    cases st with
    | nil => cases h
    | cons k t =>
      cases k <;> cases h
      rcases hn with hn | hn
      · exact .inl (.inl (by simpa using hn))
      · exact .inl (.inr (by simpa using hn))
  | done =>
    cases st with
    | nil => cases h
    | cons k t =>
      cases h
      rcases hn with hn | hn
      · exact .inl (.inl (List.mem_cons_of_mem _ hn))
      · exact .inl (.inr (List.mem_cons_of_mem _ hn))
  | _ => cases h; exact .inl hn
theorem GSt.next {f : Int} {k : Nat} {L : List Ln} {st st' : List Tk} {l : Ln} (G : GSt f k L st) (h : GLn f k st l st') : GSt f (k + 1) (L ++ [l]) st' where
  runs := G.runs.snoc h.step h.ok
  ln := fun x hx => by
    rcases List.mem_append.mp hx with hx | hx
    · exact G.ln x hx
    · rw [List.mem_singleton.mp hx]; exact h.ln
  hs := by
    obtain ⟨js, e, pw, lt⟩ := G.hs
    rw [homes_app, e]
    rcases h.hm with e2 | e2
    · exact ⟨js, by rw [e2, List.append_nil], pw, fun j hj => by have := lt j hj; omega⟩
    · refine ⟨js ++ [k], by rw [e2, List.map_append]; rfl, ?_, fun j hj => ?_⟩
      · exact List.pairwise_append.mpr ⟨pw, List.pairwise_singleton _ _, fun a ha b hb => by rw [List.mem_singleton.mp hb]; exact lt a ha⟩
      · rcases List.mem_append.mp hj with hj | hj
        · have := lt j hj; omega
        · rw [List.mem_singleton.mp hj]; omega
  len := by rw [List.length_append, G.len]; rfl
  few := stepT_len h.step h.ok G.few
  pos := fun n hn => by
    rcases stepT_home h.step hn with hn | hn
    · exact G.pos n hn
    · rcases h.hm with e | e
      · rw [e] at hn; cases hn
      · rw [e] at hn
        rw [List.mem_singleton.mp hn]
        exact (hm_rng f k).1
/-- what is open at the end is closed -/
theorem close_runs : ∀ (st : List Tk), RunsP okT st (List.replicate st.length .done) []
  | [] => .nil
  | _ :: t => .cons (st1 := t) rfl trivial (close_runs t)
theorem homes_done (n : Nat) : homes (List.replicate n .done) = [] := by
  induction n with
  | zero => rfl
  | succ n ih => exact ih
theorem GSt.gen {f : Int} {k : Nat} {L : List Ln} {st : List Tk} (G : GSt f k L st) (hk : k ≤ 61) : GenOk (L ++ List.replicate st.length .done) where
  runs := G.runs.app (close_runs st)
  ln := fun x hx => by
    rcases List.mem_append.mp hx with hx | hx
    · exact G.ln x hx
    · rw [(List.mem_replicate.mp hx).2]; trivial
  nd := by
    obtain ⟨js, e, pw, lt⟩ := G.hs
    rw [homes_app, homes_done, List.append_nil, e]
    refine List.pairwise_map.mpr (pw.imp_of_mem fun {a b} ha hb hab e => ?_)
    have := hm_inj (by have := lt a ha; omega) (by have := lt b hb; omega) e
    omega
  rng := fun n hn => by
    obtain ⟨js, e, pw, lt⟩ := G.hs
    rw [homes_app, homes_done, List.append_nil, e] at hn
    obtain ⟨j, _, rfl⟩ := List.mem_map.mp hn
    exact hm_rng f j
  few := by
    have := G.few
    have := G.len
    simp
    omega
end VL
namespace VL
open PySem PySem.Spec PyProof.Rows L2 VL
end VL
namespace VL
open PySem PySem.Spec PyProof.Rows L2 VL
end VL
namespace VL
open PySem PySem.Spec PyProof.Rows L2 VL
inductive All2 {α β : Type} (R : α → β → Prop) : List α → List β → Prop
  | nil : All2 R [] []
  | cons {a : α} {b : β} {l : List α} {m : List β} : R a b → All2 R l m → All2 R (a :: l) (b :: m)
theorem All2.app {α β : Type} {R : α → β → Prop} {a c : List α} {b d : List β} (h : All2 R a b) (k : All2 R c d) : All2 R (a ++ c) (b ++ d) := by
  induction h with
  | nil => exact k
  | cons r _ ih => exact .cons r ih
theorem All2.id {α : Type} {R : α → α → Prop} (h : ∀ a, R a a) : ∀ l : List α, All2 R l l
  | [] => .nil
  | a :: l => .cons (h a) (All2.id h l)
theorem All2.len {α β : Type} {R : α → β → Prop} {a : List α} {b : List β} (h : All2 R a b) : a.length = b.length := by
  induction h with
  | nil => rfl
  | cons _ _ ih => simp [ih]
/-- numbers changed, rounds and parts, leave and again: the same nesting -/
def sameSh : Ln → Ln → Prop
  | .round _, .round _ => True
  | .round _, .part _ => True
  | .part _, .round _ => True
  | .part _, .part _ => True
  | .leave _, .leave _ => True
  | .leave _, .again _ => True
  | .again _, .leave _ => True
  | .again _, .again _ => True
  | a, b => a = b
theorem sameSh.refl (l : Ln) : sameSh l l := by cases l <;> simp [sameSh]
end VL
namespace VL
open PySem PySem.Spec PyProof.Rows L2 VL
theorem wk_zipT {K : PySem.W.Frag} {ds es : List D} {a c : Addr} (hd1 : isFzL ds = true) (he1 : isFzL es = true) : Wk K (RZ.ItzT K a c) (zipD ds es) [.tup ds, .tup es] [.ref a, .ref c] := fun b σ H ε T Tv i hl I => by
  obtain ⟨G, F, Ft, J⟩ := id I
  obtain ⟨F1, F2, rfl, r1, r2⟩ := J.temps.split2 hl
  obtain ⟨v', vs', A, B, e1, rfl, ra, v2, vs2, A2, B2, e2, rfl, rb, rfl, rfl⟩ := r2
  cases e1
  cases e2
  obtain ⟨a', vs, e, s, r⟩ := ra
  cases e
  obtain ⟨c', us, e, s', r'⟩ := rb
  cases e
  have f1 := r.fz hd1
  have f2 := r'.fz he1
  subst f1 f2
  have s2 : SqT K H a vs := SqT.of (J.sub _ _ s)
  have s3 : SqT K H c us := SqT.of (J.sub _ _ s')
  refine ⟨fun d hd => ?_, fun h => ⟨vs, us, s2, s3, by rw [zipD_len] at h; rw [← r.len, ← r'.len]; omega⟩⟩
  obtain ⟨x, y, hx, hy, rfl⟩ := zipD_get hd
  obtain ⟨v, hv, rv⟩ := r.get hx
  obtain ⟨u, hu, ru⟩ := r'.get hy
  refine ⟨⟨vs, us, v, u, s2, s3, hv, hu⟩, fun z H' q => ?_⟩
  obtain ⟨p, w1, w2, rfl, hp, rfl, y1, y2⟩ := q
  have e1 := y1 vs s2
  rw [hv] at e1
  cases e1
  have e2 := y2 us s3
  rw [hu] at e2
  cases e2
  have J1 := J.push (rv.mono (H' := H) Sub.refl fun _ z => nomatch z)
  have J2 := J1.push (ru.mono (H' := H) Sub.refl fun _ z => nomatch z)
  have I2 : SI K b σ H ε ((T ++ [.tup ds, .tup es]) ++ [x, y]) ((Tv ++ [.ref a, .ref c]) ++ [v, u]) := ⟨G, F, _, by simpa only [List.append_assoc, List.cons_append, List.nil_append] using J2⟩
  have I3 := I2.newTup (lenApp hl rfl) hp
  simpa only [List.append_assoc] using I3
section
variable {X : Cv}
def viZipA (t : VTA) : VTA := fun N ε Q => t N ε fun ds ε1 => ∃ xs ys, (ds = [.lst false xs, .lst false ys] ∨ ds = [.tup xs, .tup ys] ∧ isFzL xs = true ∧ isFzL ys = true) ∧ Q (zipD xs ys) ε1
theorem vi_zipA {e e2 : Expr} {t : VTA} {p pos tpos : Pos} {elts : List Expr} {kk : Nat} (hg : Gl X.toCx "zip") (hm : X.mg "zip" = none) (ha : VA X [e, e2] [none, none] t)
    (hs : starEach [e, e2] X.env = (false, eval e X.env) :: starEach [e2] X.env := by rfl) (hpl : (backTo pos (starEach [e2] X.env)).any (·.1) = false := by rfl) : VI X (.Tuple elts kk tpos) (.Call (.Name "zip" p) [e, e2] [] pos) (viZipA t) := by
  obtain ⟨t', a1, a2⟩ := ha.ex
  refine ⟨fun W => RZ.iZipA X.K (t' W), fun W tk => RZ.pi_zipA hg hm (a1 W tk) hs hpl, fun b σ H ε T Tv W N Q Q' I q k x => ?_⟩
  refine a2 b σ H ε T Tv W N _ _ I q (fun ds vs ε1 H1 J l hh z => ?_) x
  obtain ⟨xs, ys, rfl | ⟨rfl, f1, f2⟩, z⟩ := z
  · obtain ⟨v, w, rfl⟩ := len2 l
    obtain ⟨G, F, F2, su, r, r'⟩ := J.last2 I.lenT
    obtain ⟨a, us, rfl, s, _, _⟩ := r
    obtain ⟨c, ws, rfl, s', _, _⟩ := r'
    exact ⟨a, c, us, ws, rfl, .inl ⟨su.sqL s, su.sqL s', k _ [.lst false xs, .lst false ys] [.ref a, .ref c] _ ε1 H1 J rfl wk_zip z⟩⟩
  · obtain ⟨v, w, rfl⟩ := len2 l
    obtain ⟨G, F, F2, su, r, r'⟩ := J.last2 I.lenT
    obtain ⟨a, us, rfl, s, _⟩ := r
    obtain ⟨c, ws, rfl, s', _⟩ := r'
    exact ⟨a, c, us, ws, rfl, .inr ⟨SqT.of (su _ _ s), SqT.of (su _ _ s'), k _ [.tup xs, .tup ys] [.ref a, .ref c] _ ε1 H1 J rfl (wk_zipT f1 f2) z⟩⟩
end
end VL
namespace VL
open PySem PySem.Spec PyProof.Rows L2 VL
/-- where a list goes -/
inductive Gs where
  | nil
  | leave (n : Int)
  | again (n : Int)
  | fin
  | on
abbrev Rs := Dds × Option Gs
def sumR (d : Dds) (x : Cs) (a : Opd) (s : Cs) (b : Opd) : Rs :=
  if d.most ≤ (d.done.length : Int) then (d, some .on) else
    match madeV s (worthM d.mem a) (worthM d.mem b) with
    | none => (d, none)
    | some v => (⟨putM d.mem x v, d.most, d.done ++ [.sum x (worthM d.mem a) s (worthM d.mem b) v]⟩, some .nil)
def testD (d : Dds) (a : Opd) (s : Cs) (b : Opd) : Dds := ⟨d.mem, d.most, d.done ++ [.test (worthM d.mem a) s (worthM d.mem b) (holdsV s (worthM d.mem a) (worthM d.mem b))]⟩
def loopR (body : Dds → Rs) (n : Int) : Nat → Dds → Rs
  | 0, d => (d, some .on)
  | k + 1, d => match body d with
    | (d', none) => (d', none)
    | (d', some .nil) => if d'.done.length = d.done.length then (d', some .on) else loopR body n k d'
    | (d', some (.leave m)) => if m = n then (d', some .nil) else (d', some (.leave m))
    | (d', some (.again m)) => if m = n then (if d'.done.length = d.done.length then (d', some .on) else loopR body n k d') else (d', some (.again m))
    | (d', some .fin) => (d', some .fin)
    | (d', some .on) => (d', some .on)
def partR (n : Int) : Rs → Rs
  | (d, some (.leave m)) => if m = n then (d, some .nil) else (d, some (.leave m))
  | r => r
def thenR (r : Rs) (k : Dds → Rs) : Rs := match r with
  | (d, some .nil) => k d
  | r => r
mutual
def runFm (K : Nat) : Fm → Dds → Rs
  | .sum x a s b, d => sumR d x a s b
  | .choice a s b Y Z e, d => if d.most ≤ (d.done.length : Int) then (d, some .on) else
      if holdsV s (worthM d.mem a) (worthM d.mem b) = true then runLs K Y (testD d a s b) else if e = true then runLs K Z (testD d a s b) else (testD d a s b, some .nil)
  | .round n B, d => loopR (fun d => runLs K B d) n K d
  | .part n B, d => partR n (runLs K B d)
  | .leave n, d => (d, some (.leave n))
  | .again n, d => (d, some (.again n))
  | .fin, d => (d, some .fin)
def runLs (K : Nat) : List Fm → Dds → Rs
  | [], d => (d, some .nil)
  | f :: fs, d => thenR (runFm K f d) fun d => runLs K fs d
end
inductive Opn where
  | sum (x : Cs) (a : Opd) (s : Cs) (b : Opd) (to : Nat)
  | test (a : Opd) (s : Cs) (b : Opd) (yes no : Nat)
  | stop
structure Cd where
  nx : Nat → Option Nat
  op : Nat → Opn
section
variable {c : Cd}
/-- in silence -/
def Sl (c : Cd) (p q : Nat) : Prop := ∃ n, itJ c.nx n p = some q
def Sl1 (c : Cd) (p q : Nat) : Prop := ∃ n, itJ c.nx (n + 1) p = some q
def Fol (c : Cd) (p q : Nat) : Prop := Sl c p q ∧ c.nx q = none
theorem Sl.refl {p : Nat} : Sl c p p := ⟨0, rfl⟩
theorem Sl.trans {p q r : Nat} (h : Sl c p q) (k : Sl c q r) : Sl c p r := by
  obtain ⟨n, h⟩ := h
  obtain ⟨m, k⟩ := k
  exact ⟨n + m, by rw [itJ_add h]; exact k⟩
theorem Sl1.sl {p q : Nat} (h : Sl1 c p q) : Sl c p q := let ⟨n, h⟩ := h; ⟨n + 1, h⟩
theorem Sl.then1 {p q r : Nat} (h : Sl c p q) (k : Sl1 c q r) : Sl1 c p r := by
  obtain ⟨n, h⟩ := h
  obtain ⟨m, k⟩ := k
  exact ⟨n + m, by rw [show n + m + 1 = n + (m + 1) by omega, itJ_add h]; exact k⟩
theorem it_stop {p q : Nat} (h : c.nx p = none) : ∀ {n : Nat}, itJ c.nx n p = some q → n = 0 ∧ q = p
  | 0, e => ⟨rfl, (Option.some.inj e).symm⟩
  | n + 1, e => by
    have e : (c.nx p).bind (itJ c.nx n) = some q := e
    rw [h] at e
    cases e
theorem Fol.one {p q r : Nat} (h : Fol c p q) (k : Fol c p r) : q = r := by
  obtain ⟨⟨n, h⟩, hq⟩ := h
  obtain ⟨⟨m, k⟩, hr⟩ := k
  rcases Nat.le_total n m with l | l
  · have e := itJ_add (m := m - n) h
    rw [show n + (m - n) = m by omega, k] at e
    exact (it_stop hq e.symm).2.symm
  · have e := itJ_add (m := n - m) k
    rw [show m + (n - m) = n by omega, h] at e
    exact (it_stop hr e.symm).2
theorem Fol.self {p : Nat} (h : c.nx p = none) : Fol c p p := ⟨.refl, h⟩
theorem Fol.back {p q r : Nat} (h : Sl c p q) (k : Fol c q r) : Fol c p r := ⟨h.trans k.1, k.2⟩
theorem Fol.on {p q r : Nat} (h : Sl c p q) (k : Fol c p r) : Fol c q r := by
  obtain ⟨n, h⟩ := h
  obtain ⟨⟨m, k⟩, hr⟩ := k
  rcases Nat.le_total n m with l | l
  · have e := itJ_add (m := m - n) h
    rw [show n + (m - n) = m by omega, k] at e
    exact ⟨⟨_, e.symm⟩, hr⟩
  · have e := itJ_add (m := n - m) k
    rw [show m + (n - m) = n by omega, h] at e
    rw [(it_stop hr e.symm).2]
    exact .self hr
/-- a run of code from deed to deed -/
inductive MG (c : Cd) : Nat → Nat → Mem → List Dd → Cs → Mem → Prop
  | ring {m p : Nat} {M : Mem} : (∀ q, ¬Fol c p q) → MG c m p M [] cOn M
  | fin {m p q : Nat} {M : Mem} : Fol c p q → c.op q = .stop → MG c m p M [] cEnd M
  | full {p q : Nat} {M : Mem} : Fol c p q → c.op q ≠ .stop → MG c 0 p M [] cOn M
  | fault {m p q : Nat} {x s : Cs} {a b : Opd} {t : Nat} {M : Mem} : Fol c p q → c.op q = .sum x a s b t → madeV s (worthM M a) (worthM M b) = none → MG c (m + 1) p M [] cFault M
  | sum {m p q t : Nat} {x s : Cs} {a b : Opd} {v : Int} {M M' : Mem} {ds : List Dd} {w : Cs} : Fol c p q → c.op q = .sum x a s b t → madeV s (worthM M a) (worthM M b) = some v →
      MG c m t (putM M x v) ds w M' → MG c (m + 1) p M (.sum x (worthM M a) s (worthM M b) v :: ds) w M'
  | test {m p q y n : Nat} {s : Cs} {a b : Opd} {M M' : Mem} {ds : List Dd} {w : Cs} : Fol c p q → c.op q = .test a s b y n →
      MG c m (if holdsV s (worthM M a) (worthM M b) = true then y else n) M ds w M' → MG c (m + 1) p M (.test (worthM M a) s (worthM M b) (holdsV s (worthM M a) (worthM M b)) :: ds) w M'
theorem MG.from {m p q : Nat} {M M1 : Mem} {ds : List Dd} {w : Cs} (s : Sl c p q) (h : MG c m q M ds w M1) : MG c m p M ds w M1 := by
  cases h with
  | ring h => exact .ring fun r k => h r (k.on s)
  | fin h h2 => exact .fin (.back s h) h2
  | full h h2 => exact .full (.back s h) h2
  | fault h h2 h3 => exact .fault (.back s h) h2 h3
  | sum h h2 h3 r => exact .sum (.back s h) h2 h3 r
  | test h h2 r => exact .test (.back s h) h2 r
theorem MG.one {m p : Nat} {M M1 M2 : Mem} {ds ds' : List Dd} {w w' : Cs} (h : MG c m p M ds w M1) (k : MG c m p M ds' w' M2) : ds = ds' ∧ w = w' ∧ M1 = M2 := by
  induction h generalizing ds' w' M2 with
  | ring h =>
    cases k with
    | ring _ => exact ⟨rfl, rfl, rfl⟩
    | fin e _ => exact (h _ e).elim
    | full e _ => exact (h _ e).elim
    | fault e _ _ => exact (h _ e).elim
    | sum e _ _ _ => exact (h _ e).elim
    | test e _ _ => exact (h _ e).elim
  | fin h h2 =>
    cases k with
    | ring e => exact (e _ h).elim
    | fin _ _ => exact ⟨rfl, rfl, rfl⟩
    | full e e2 => cases h.one e; exact (e2 h2).elim
    | fault e e2 _ => cases h.one e; rw [h2] at e2; cases e2
    | sum e e2 _ _ => cases h.one e; rw [h2] at e2; cases e2
    | test e e2 _ => cases h.one e; rw [h2] at e2; cases e2
  | full h h2 =>
    cases k with
    | ring e => exact (e _ h).elim
    | fin e e2 => cases h.one e; exact (h2 e2).elim
    | full _ _ => exact ⟨rfl, rfl, rfl⟩
  | fault h h2 h3 =>
    cases k with
    | ring e => exact (e _ h).elim
    | fin e e2 => cases h.one e; rw [h2] at e2; cases e2
    | fault _ _ _ => exact ⟨rfl, rfl, rfl⟩
    | sum e e2 e3 _ => cases h.one e; rw [h2] at e2; cases e2; rw [h3] at e3; cases e3
    | test e e2 _ => cases h.one e; rw [h2] at e2; cases e2
  | sum h h2 h3 _ ih =>
    cases k with
    | ring e => exact (e _ h).elim
    | fin e e2 => cases h.one e; rw [h2] at e2; cases e2
    | fault e e2 e3 => cases h.one e; rw [h2] at e2; cases e2; rw [h3] at e3; cases e3
    | sum e e2 e3 r =>
      cases h.one e; rw [h2] at e2; cases e2; rw [h3] at e3; cases e3
      obtain ⟨rfl, rfl, rfl⟩ := ih r
      exact ⟨rfl, rfl, rfl⟩
    | test e e2 _ => cases h.one e; rw [h2] at e2; cases e2
  | test h h2 _ ih =>
    cases k with
    | ring e => exact (e _ h).elim
    | fin e e2 => cases h.one e; rw [h2] at e2; cases e2
    | fault e e2 e3 => cases h.one e; rw [h2] at e2; cases e2
    | sum e e2 e3 r => cases h.one e; rw [h2] at e2; cases e2
    | test e e2 r =>
      cases h.one e; rw [h2] at e2; cases e2
      obtain ⟨rfl, rfl, rfl⟩ := ih r
      exact ⟨rfl, rfl, rfl⟩
def Dds.rem (d : Dds) : Nat := (d.most - (d.done.length : Int)).toNat
def To (c : Cd) (d d' : Dds) (p t : Nat) (ds : List Dd) : Prop :=
  (∀ ds2 w M2, MG c d'.rem t d'.mem ds2 w M2 → MG c d.rem p d.mem (ds ++ ds2) w M2) ∧ (ds = [] → d'.mem = d.mem ∧ Sl c p t)
def To1 (c : Cd) (d d' : Dds) (p t : Nat) (ds : List Dd) : Prop :=
  (∀ ds2 w M2, MG c d'.rem t d'.mem ds2 w M2 → MG c d.rem p d.mem (ds ++ ds2) w M2) ∧ (ds = [] → d'.mem = d.mem ∧ Sl1 c p t)
def Out (c : Cd) (lv ag : Int → Nat) (d d' : Dds) (p q : Nat) (ds : List Dd) : Option Gs → Prop
  | none => MG c d.rem p d.mem ds cFault d'.mem
  | some .on => MG c d.rem p d.mem ds cOn d'.mem
  | some .fin => MG c d.rem p d.mem ds cEnd d'.mem
  | some .nil => To c d d' p q ds
  | some (.leave n) => To1 c d d' p (lv n) ds
  | some (.again n) => To1 c d d' p (ag n) ds
structure Grow (d d' : Dds) (ds : List Dd) : Prop where
  done : d'.done = d.done ++ ds
  most : d'.most = d.most
  fit : ds = [] ∨ ((d.done ++ ds).length : Int) ≤ d.most
theorem Grow.refl (d : Dds) : Grow d d [] := ⟨by simp, rfl, .inl rfl⟩
theorem Grow.trans {d1 d2 d3 : Dds} {a b : List Dd} (h : Grow d1 d2 a) (k : Grow d2 d3 b) : Grow d1 d3 (a ++ b) where
  done := by rw [k.done, h.done, List.append_assoc]
  most := k.most.trans h.most
  fit := by
    rcases k.fit with e | f
    · subst e
      rw [List.append_nil]
      exact h.fit
    · right
      rw [h.done, h.most, List.append_assoc] at f
      exact f
theorem Grow.rem {d d' : Dds} {ds : List Dd} (h : Grow d d' ds) : d'.rem + ds.length = d.rem := by
  unfold Dds.rem
  rw [h.most, h.done]
  rcases h.fit with e | f
  · subst e; simp
  · simp at f ⊢; omega
def Simd (c : Cd) (lv ag : Int → Nat) (d : Dds) (p q : Nat) (r : Rs) : Prop := ∃ ds, Grow d r.1 ds ∧ Out c lv ag d r.1 p q ds r.2
theorem To.trans {d1 d2 d3 : Dds} {p q r : Nat} {a b : List Dd} (h : To c d1 d2 p q a) (k : To c d2 d3 q r b) : To c d1 d3 p r (a ++ b) :=
  ⟨fun ds2 w M2 g => by rw [List.append_assoc]; exact h.1 _ _ _ (k.1 _ _ _ g), fun e => by
    obtain ⟨rfl, rfl⟩ := List.append_eq_nil_iff.mp e
    exact ⟨(k.2 rfl).1.trans (h.2 rfl).1, (h.2 rfl).2.trans (k.2 rfl).2⟩⟩
theorem To.trans1 {d1 d2 d3 : Dds} {p q r : Nat} {a b : List Dd} (h : To c d1 d2 p q a) (k : To1 c d2 d3 q r b) : To1 c d1 d3 p r (a ++ b) :=
  ⟨fun ds2 w M2 g => by rw [List.append_assoc]; exact h.1 _ _ _ (k.1 _ _ _ g), fun e => by
    obtain ⟨rfl, rfl⟩ := List.append_eq_nil_iff.mp e
    exact ⟨(k.2 rfl).1.trans (h.2 rfl).1, (h.2 rfl).2.then1 (k.2 rfl).2⟩⟩
theorem To.sl {d : Dds} {p q : Nat} (h : Sl c p q) : To c d d p q [] := ⟨fun _ _ _ g => g.from h, fun _ => ⟨rfl, h⟩⟩
theorem To1.sl {d : Dds} {p q : Nat} (h : Sl1 c p q) : To1 c d d p q [] := ⟨fun _ _ _ g => g.from h.sl, fun _ => ⟨rfl, h⟩⟩
section
variable {lv ag : Int → Nat}
theorem Simd.pre {d1 d2 : Dds} {p q z : Nat} {r : Rs} {a : List Dd} (g : Grow d1 d2 a) (h : To c d1 d2 p q a) (k : Simd c lv ag d2 q z r) : Simd c lv ag d1 p z r := by
  obtain ⟨ds, g2, o⟩ := k
  refine ⟨a ++ ds, g.trans g2, ?_⟩
  obtain ⟨d3, e⟩ := r
  cases e with
  | none => exact h.1 _ _ _ o
  | some e =>
    cases e with
    | on => exact h.1 _ _ _ o
    | fin => exact h.1 _ _ _ o
    | nil => exact h.trans o
    | leave n => exact h.trans1 o
    | again n => exact h.trans1 o
theorem grow1 {d : Dds} {x : Dd} {M : Mem} (h : ¬d.most ≤ (d.done.length : Int)) : Grow d ⟨M, d.most, d.done ++ [x]⟩ [x] := ⟨rfl, rfl, .inr (by simp; omega)⟩
end
end
end VL
namespace VL
open PySem PySem.Spec PyProof.Rows L2 VL
abbrev cHome : Cs := [104, 111, 109, 101]
/-- marks: what stands where -/
abbrev Mks := Cs → Int → Option Nat
def Mks.put (μ : Mks) (c : Cs) (i : Int) (v : Nat) : Mks := fun c' i' => if c' = c ∧ i' = i then some v else μ c' i'
def Mks.v (μ : Mks) (c : Cs) (i : Int) : Nat := (μ c i).getD 0
theorem Mks.v_of {μ : Mks} {c : Cs} {i : Int} {n : Nat} (h : μ c i = some n) : μ.v c i = n := by unfold Mks.v; rw [h]; rfl
theorem Mks.put_ne {μ : Mks} {c c' : Cs} {i i' : Int} {v : Nat} (h : ¬(c' = c ∧ i' = i)) : μ.put c i v c' i' = μ c' i' := if_neg h
end VL
namespace VL
open PySem PySem.Spec PyProof.Rows L2 VL
def CtxW (L : List Ln) (μ : Mks) (W : List Int) : Prop := ∀ n ∈ W, ∃ p q, μ cHome n = some p ∧ μ cDone (p : Int) = some q ∧ p < L.length ∧ q < L.length
theorem CtxW.snoc {L : List Ln} {μ : Mks} {W : List Int} (h : CtxW L μ W) {n : Int} {p q : Nat} (h1 : μ cHome n = some p) (h2 : μ cDone (p : Int) = some q) (h3 : p < L.length) (h4 : q < L.length) : CtxW L μ (W ++ [n]) := fun m hm => by
  rcases List.mem_append.mp hm with hm | hm
  · exact h m hm
  · rw [List.mem_singleton.mp hm]; exact ⟨p, q, h1, h2, h3, h4⟩
end VL
namespace VL
open PySem PySem.Spec PyProof.Rows L2 VL
def gsD : Gs → D
  | .nil => .non
  | .leave n => .tup [.str cLeave, .int n]
  | .again n => .tup [.str cAgain, .int n]
  | .fin => .tup [.str cEnd]
  | .on => .tup [.str cOn]
theorem gs_fz (g : Gs) : isFz (gsD g) = true := by cases g <;> rfl
/-- small enough -/
structure SOk (d : Dds) : Prop where
  mem : MemB (61 + d.done.length) d.mem
  few : d.mem.length ≤ 10 + d.done.length
  done : d.done.length ≤ 180
  most : d.most ≤ 180
/-- kept by a run -/
def Keep (P : Dds → Prop) (d : Dds) (r : Rs) : Prop := P d → (∃ ds, Grow d r.1 ds) ∧ P r.1
theorem loop_keep {P : Dds → Prop} {body : Dds → Rs} {n : Int} (B : ∀ d, Keep P d (body d)) : ∀ (k : Nat) (d : Dds), Keep P d (loopR body n k d)
  | 0, d => fun h => ⟨⟨[], .refl d⟩, h⟩
  | k + 1, d => fun h => by
    obtain ⟨⟨ds, g⟩, h1⟩ := B d h
    show (∃ ds, Grow d (match body d with
      | (d', none) => (d', none)
      | (d', some .nil) => if d'.done.length = d.done.length then (d', some .on) else loopR body n k d'
      | (d', some (.leave m)) => if m = n then (d', some .nil) else (d', some (.leave m))
      | (d', some (.again m)) => if m = n then (if d'.done.length = d.done.length then (d', some .on) else loopR body n k d') else (d', some (.again m))
      | (d', some .fin) => (d', some .fin)
      | (d', some .on) => (d', some .on) : Rs).1 ds) ∧ P (match body d with
      | (d', none) => (d', none)
      | (d', some .nil) => if d'.done.length = d.done.length then (d', some .on) else loopR body n k d'
      | (d', some (.leave m)) => if m = n then (d', some .nil) else (d', some (.leave m))
      | (d', some (.again m)) => if m = n then (if d'.done.length = d.done.length then (d', some .on) else loopR body n k d') else (d', some (.again m))
      | (d', some .fin) => (d', some .fin)
      | (d', some .on) => (d', some .on) : Rs).1
    obtain ⟨d', e, hbd⟩ : ∃ d' e, body d = (d', e) := ⟨_, _, rfl⟩
    rw [hbd] at g h1 ⊢
    have g : Grow d d' ds := g
    have h1 : P d' := h1
    obtain ⟨⟨ds2, g2⟩, h2⟩ := loop_keep (n := n) B k d' h1
    cases e with
    | none => exact ⟨⟨ds, g⟩, h1⟩
    | some e =>
      cases e with
      | on => exact ⟨⟨ds, g⟩, h1⟩
      | fin => exact ⟨⟨ds, g⟩, h1⟩
      | nil =>
        show (∃ ds, Grow d (if d'.done.length = d.done.length then (d', some .on) else loopR body n k d' : Rs).1 ds) ∧ P (if d'.done.length = d.done.length then (d', some .on) else loopR body n k d' : Rs).1
        split
        · exact ⟨⟨ds, g⟩, h1⟩
        · exact ⟨⟨_, g.trans g2⟩, h2⟩
      | leave m =>
        show (∃ ds, Grow d (if m = n then (d', some .nil) else (d', some (.leave m)) : Rs).1 ds) ∧ P (if m = n then (d', some .nil) else (d', some (.leave m)) : Rs).1
        split <;> exact ⟨⟨ds, g⟩, h1⟩
      | again m =>
        show (∃ ds, Grow d (if m = n then (if d'.done.length = d.done.length then (d', some .on) else loopR body n k d') else (d', some (.again m)) : Rs).1 ds) ∧ P (if m = n then (if d'.done.length = d.done.length then (d', some .on) else loopR body n k d') else (d', some (.again m)) : Rs).1
        split
        · split
          · exact ⟨⟨ds, g⟩, h1⟩
          · exact ⟨⟨_, g.trans g2⟩, h2⟩
        · exact ⟨⟨ds, g⟩, h1⟩
/-- a line whose numbers are bounded -/
def LnB : Ln → Prop
  | .sum _ a _ b => OpB 61 a ∧ OpB 61 b
  | _ => True
theorem LnOk.b {l : Ln} (h : LnOk l) : LnB l := by
  cases l with
  | sum x a s b => exact ⟨opd_bd h.2.1, opd_bd h.2.2.2⟩
  | _ => trivial
end VL
namespace VL
open PySem PySem.Spec PyProof.Rows L2 VL
end VL
namespace VL
open PySem PySem.Spec PyProof.Rows L2 VL
def RunPre (d : Dds) (L : List Ln) : Prop := SOk d ∧ d.rem < 200 ∧ ∀ l ∈ L, LnB l
/-- told by what it runs to -/
def RsOut (o : Rs) (f : Dds → List D) (A : D → List D → Prop) (B : Value → D → List D → Prop) : Prop := match o with
  | (d', some g) => A (gsD g) (f d')
  | (d', none) => B (.type "ByNought") .non (f d')
theorem RsOut.mono {o : Rs} {f : Dds → List D} {A A' : D → List D → Prop} {B B' : Value → D → List D → Prop} (hA : ∀ r l, A r l → A' r l) (hB : ∀ c r l, B c r l → B' c r l) (q : RsOut o f A B) : RsOut o f A' B' := by
  obtain ⟨d', g⟩ := o
  cases g with
  | none => exact hB _ _ _ q
  | some g => exact hA _ _ q
theorem RsOut.of {o : Rs} {f : Dds → List D} {A : D → List D → Prop} {B : Value → D → List D → Prop} (q1 : ∀ d' g, o = (d', some g) → A (gsD g) (f d')) (q2 : ∀ d', o = (d', none) → B (.type "ByNought") .non (f d')) : RsOut o f A B := by
  obtain ⟨d', g⟩ := o
  cases g with
  | none => exact q2 d' rfl
  | some g => exact q1 d' g rfl
theorem RsOut.yes {o : Rs} {f : Dds → List D} {A : D → List D → Prop} {B : Value → D → List D → Prop} (q : RsOut o f A B) {d' : Dds} {g : Gs} (e : o = (d', some g)) : A (gsD g) (f d') := by
  subst e
  exact q
theorem RsOut.no {o : Rs} {f : Dds → List D} {A : D → List D → Prop} {B : Value → D → List D → Prop} (q : RsOut o f A B) {d' : Dds} (e : o = (d', none)) : B (.type "ByNought") .non (f d') := by
  subst e
  exact q
theorem RunPre.mono {d : Dds} {L M : List Ln} (h : RunPre d L) (s : ∀ l ∈ M, l ∈ L) : RunPre d M := ⟨h.1, h.2.1, fun l hl => h.2.2 l (s l hl)⟩
theorem RunPre.on {d d' : Dds} {L M : List Ln} {ds : List Dd} (h : RunPre d L) (g : Grow d d' ds) (o : SOk d') (s : ∀ l ∈ M, l ∈ L) : RunPre d' M := ⟨o, by have := g.rem; have := h.2.1; omega, fun l hl => h.2.2 l (s l hl)⟩
theorem fld_done {i : Nat} {ε : Ep} {d : Dds} {b : Bool} {Q : D → Prop} (h : ε[i]? = some (some (ddsD b d))) (q : Q (.lst false (d.done.map dedD))) : wFld 0 cDoneF (wName i) ε Q :=
  ⟨ddsD b d, h, by rw [dds_frz]; exact ⟨_, _, 2, _, rfl, rfl, rfl, q⟩⟩
def Gs.isNil : Gs → Bool
  | .nil => true
  | _ => false
theorem gs_non (g : Gs) : (match gsD g with | D.non => true | D.val v => decide (v = V.non) | D.pin v d => decide (v = V.non) | x => false) = g.isNil := by cases g <;> rfl
theorem gs_ok (g : Gs) : okD 64 (gsD g) = true := by cases g <;> rfl
theorem gs_eq1 (g : Gs) (n : Int) : eqOk (gsD g) (.tup [.str cLeave, .int n]) ∧ eqOk (gsD g) (.tup [.str cAgain, .int n]) ∧ eqOk (gsD g) (.tup [.str cOn]) := ⟨.inr ⟨gs_ok g, rfl⟩, .inr ⟨gs_ok g, rfl⟩, .inr ⟨gs_ok g, rfl⟩⟩
def Gs.isLeave (n : Int) : Gs → Bool
  | .leave m => decide (m = n)
  | _ => false
def Gs.isAgain (n : Int) : Gs → Bool
  | .again m => decide (m = n)
  | _ => false
def Gs.isOn : Gs → Bool
  | .on => true
  | _ => false
theorem gs_deqL (g : Gs) (n : Int) : deq (gsD g) (.tup [.str cLeave, .int n]) = g.isLeave n := by
  cases g with
  | leave m =>
    show (deq (.str cLeave) (.str cLeave) && (deq (.int m) (.int n) && deqL [] [])) = _
    rw [deq_s, deq_i]
    simp [deqL, Gs.isLeave]
  | again m =>
    show (deq (.str cAgain) (.str cLeave) && (deq (.int m) (.int n) && deqL [] [])) = _
    rw [deq_s]
    rfl
  | nil => rfl
  | fin =>
    show (deq (.str cEnd) (.str cLeave) && deqL [] [.int n]) = _
    rw [deq_s]
    rfl
  | on =>
    show (deq (.str cOn) (.str cLeave) && deqL [] [.int n]) = _
    rw [deq_s]
    rfl
theorem gs_deqA (g : Gs) (n : Int) : deq (gsD g) (.tup [.str cAgain, .int n]) = g.isAgain n := by
  cases g with
  | again m =>
    show (deq (.str cAgain) (.str cAgain) && (deq (.int m) (.int n) && deqL [] [])) = _
    rw [deq_s, deq_i]
    simp [deqL, Gs.isAgain]
  | leave m =>
    show (deq (.str cLeave) (.str cAgain) && (deq (.int m) (.int n) && deqL [] [])) = _
    rw [deq_s]
    rfl
  | nil => rfl
  | fin =>
    show (deq (.str cEnd) (.str cAgain) && deqL [] [.int n]) = _
    rw [deq_s]
    rfl
  | on =>
    show (deq (.str cOn) (.str cAgain) && deqL [] [.int n]) = _
    rw [deq_s]
    rfl
theorem gs_deqO (g : Gs) : deq (gsD g) (.tup [.str cOn]) = g.isOn := by
  cases g with
  | again m =>
    show (deq (.str cAgain) (.str cOn) && deqL [.int m] []) = _
    rw [deq_s]
    rfl
  | leave m =>
    show (deq (.str cLeave) (.str cOn) && deqL [.int m] []) = _
    rw [deq_s]
    rfl
  | nil => rfl
  | fin =>
    show (deq (.str cEnd) (.str cOn) && deqL [] []) = _
    rw [deq_s]
    rfl
  | on =>
    show (deq (.str cOn) (.str cOn) && deqL [] []) = _
    rw [deq_s]
    rfl
/-- one turn of a round -/
def loopS (n : Int) (d d' : Dds) (g : Option Gs) (rest : Rs) : Rs := match g with
  | none => (d', none)
  | some .nil => if d'.done.length = d.done.length then (d', some .on) else rest
  | some (.leave m) => if m = n then (d', some .nil) else (d', some (.leave m))
  | some (.again m) => if m = n then (if d'.done.length = d.done.length then (d', some .on) else rest) else (d', some (.again m))
  | some .fin => (d', some .fin)
  | some .on => (d', some .on)
theorem loop_eq {body : Dds → Rs} {n : Int} {k : Nat} {d d' : Dds} {g : Option Gs} (e : body d = (d', g)) : loopR body n (k + 1) d = loopS n d d' g (loopR body n k d') := by
  show (match body d with
    | (d', none) => (d', none)
    | (d', some .nil) => if d'.done.length = d.done.length then (d', some .on) else loopR body n k d'
    | (d', some (.leave m)) => if m = n then (d', some .nil) else (d', some (.leave m))
    | (d', some (.again m)) => if m = n then (if d'.done.length = d.done.length then (d', some .on) else loopR body n k d') else (d', some (.again m))
    | (d', some .fin) => (d', some .fin)
    | (d', some .on) => (d', some .on) : Rs) = _
  rw [e]
  cases g with
  | none => rfl
  | some g => cases g <;> rfl
end VL
namespace VL
open PySem PySem.Spec PyProof.Rows L2 VL
def keyCI (c : Cs) (i : Int) : List Kc := [.inr c, .inl i]
structure RepM (μ : Mks) (ks : List (List Kc)) (js : List Nat) : Prop where
  len : ks.length = js.length
  at_ : ∀ c i, ((kIx ks (keyCI c i)).bind fun j => js[j]?) = μ c i
theorem RepM.nil : RepM (fun _ _ => none) [] [] := ⟨rfl, fun _ _ => rfl⟩
end VL
namespace VL
open PySem PySem.Spec PyProof.Rows L2 VL
/-- nothing else is changed -/
structure FrM (μ μ' : Mks) (p q : Nat) (hs : List Int) : Prop where
  pos : ∀ c, c ≠ cHome → ∀ k : Nat, (k < p ∨ q ≤ k) → μ' c (k : Int) = μ c (k : Int)
  hm : ∀ n, n ∉ hs → μ' cHome n = μ cHome n
theorem FrM.refl {μ : Mks} {p q : Nat} {hs : List Int} : FrM μ μ p q hs := ⟨fun _ _ _ _ => rfl, fun _ _ => rfl⟩
theorem FrM.trans {μ1 μ2 μ3 : Mks} {p q r s : Nat} {a b : List Int} (h : FrM μ1 μ2 p q a) (k : FrM μ2 μ3 r s b) {P Q : Nat} {hs : List Int} (h1 : P ≤ p) (h2 : q ≤ Q) (h3 : P ≤ r) (h4 : s ≤ Q) (h5 : ∀ n ∈ a, n ∈ hs) (h6 : ∀ n ∈ b, n ∈ hs) : FrM μ1 μ3 P Q hs :=
  ⟨fun c hc i hi => by rw [k.pos c hc i (by omega), h.pos c hc i (by omega)], fun n hn => by rw [k.hm n (fun z => hn (h6 n z)), h.hm n (fun z => hn (h5 n z))]⟩
theorem FrM.put {μ : Mks} {c : Cs} (hc : c ≠ cHome) {i v : Nat} : FrM μ (μ.put c (i : Int) v) i (i + 1) [] :=
  ⟨fun c' _ k hk => Mks.put_ne (fun z => by have := z.2; omega), fun n _ => Mks.put_ne (fun z => hc z.1.symm)⟩
end VL
namespace VL
open PySem PySem.Spec PyProof.Rows L2 VL
section
variable {X : Cv}
def vLendD (z : Int) (vsp : VSp) (t : VTVs) : VTE := fun N ε Q => t ε fun ds => vsp (ds ++ [.int z]) (fun r ds' => newD r = true ∧ Q r ε) (fun cls row ds' => newD row = true ∧ N cls row ε)
theorem ve_lendD {x : Str} {z : Int} {p pos : Pos} {e : Expr} {es : List Expr} {t : VTVs} {k n : Nat} {vsp : VSp} (F : Fd X.prog X.w X.K X.mg X.base x z k n vsp) (m : Mono vsp) (hr : Room k X.A) (hg : Gl X.toCx x) (hn : (e :: es).length + 1 = n) (ha : VVs X (e :: es) t)
    (hdb : (x == ("__debug__" : Str)) = false := by decide) (he : starEach (e :: es) X.env = (false, eval e X.env) :: starEach es X.env := by rfl) (hpl : (backTo pos (starEach es X.env)).any (·.1) = false := by rfl) :
    VE X (.Call (.Name x p) (e :: es) [] pos) (vLendD z vsp t) := by
  obtain ⟨f, fd, ps, hm, hk, _, ⟨dv, hv, hb⟩, F⟩ := F.ex
  obtain ⟨t', a1, a2⟩ := ha.ex
  refine ⟨fun W => tCallSD (Lift X.K n vsp) [.int z] (WE W) (t' W), fun W tk => pe_callSD F hr hg hm hk hb hv (fun σ => passAt tk σ) (a1 W tk) hdb he hpl, fun b σ H ε T Tv W N Q Q' I q kk x => ?_⟩
  refine a2 b σ H ε T Tv W _ _ I q fun ds vs H1 s1 rr l z1 => ?_
  have I1 := I.grow s1
  have rr2 := rr.append (RpL.one.mpr (show Rp X.K _ _ (.int z) (.int z) [] from ⟨rfl, rfl⟩))
  have ll : ∀ {ds' : List D} {d : D} {v : V} {H' : Hp}, SI X.K (callB H1 H1 []) [] H' [] (ds' ++ [d]) ((vs ++ [.int z]) ++ [v]) → ds'.length = (vs ++ [V.int z]).length := fun I' => by
    have := I'.lenT
    simpa using this
  refine ⟨H1, [], ds ++ [.int z], si_view rr2, by rw [List.length_append, l]; exact hn, m _ _ _ _ _ (fun r ds' q' v H' I' => ?_) (fun cls row ds' q' dd v H' I' e fr => ?_) z1⟩
  · exact kk r v ε H' (I1.lend I' (ll I') q'.1) q'.2
  · refine x cls dd σ H' ε row v (I1.lend I' (ll I') q'.1) e ?_ q'.2
    rcases fr with h | h
    · exact nomatch h
    · obtain ⟨_, _, _, J⟩ := I1
      exact J.h0 h
end
end VL
namespace VL
open PySem PySem.Spec PyProof.Rows L2 VL
/-- a def whose last parameter, of the name y, is named by the asker -/
structure Fk (P : Program) (w : World) (K : PySem.W.Frag) (mg : Str → Option Value) (base : Heap) (x y : Str) (k n : Nat) (vsp : VSp) : Prop where
  ex : ∃ f fd ps, mg x = some (.ref f) ∧ PySem.W.keepIn K (.ref f) = true ∧ KBn K fd ps (n - 1) [y] (fun us ws => us ++ ws) (fun vs zs => vs ++ zs) ∧ FnOk P w K mg base (VL.CX P w) k f fd ps (Lift K n vsp)
/-- a def whose last parameter has a number as default and is named by some askers -/
structure Fdk (P : Program) (w : World) (K : PySem.W.Frag) (mg : Str → Option Value) (base : Heap) (x y : Str) (z : Int) (k n : Nat) (vsp : VSp) : Prop where
  ex : ∃ f fd ps, mg x = some (.ref f) ∧ PySem.W.keepIn K (.ref f) = true ∧ Binds K fd ps [] ∧ (∃ ds, Vals [.int z] ds ∧ Binds K fd ps ds) ∧ KBn K fd ps (n - 1) [y] (fun us ws => us ++ ws) (fun vs zs => vs ++ zs) ∧ FnOk P w K mg base (VL.CX P w) k f fd ps (Lift K n vsp)
theorem Fdk.d {P w K mg base x y z k n vsp} (F : Fdk P w K mg base x y z k n vsp) : Fd P w K mg base x z k n vsp := let ⟨f, fd, ps, a, b, c, d, _, e⟩ := F.ex; ⟨f, fd, ps, a, b, c, d, e⟩
theorem Fdk.k {P w K mg base x y z k n vsp} (F : Fdk P w K mg base x y z k n vsp) : Fk P w K mg base x y k n vsp := let ⟨f, fd, ps, a, b, _, _, c, e⟩ := F.ex; ⟨f, fd, ps, a, b, c, e⟩
section
variable {P : Program} {w : World} {K : PySem.W.Frag} {mg : Str → Option Value} {base : Heap} {x : Str} {st : Stmt} {N ps : List Str} {κ : List Bool} {k n : Nat} {vsp : VSp} {t : VTS}
theorem Fdk.make {z : Int} {y : Str} (hF : ∃ f fd, mg x = some (.ref f) ∧ FunD K x x (defArgs st) (defBody st) (defScope st) [.int z] [] f fd) (S : FnScope N ps (defScope st))
    (hb : ∀ {f fd}, FunD K x x (defArgs st) (defBody st) (defScope st) [.int z] [] f fd → (∃ ds, Vals [] ds ∧ Binds K fd ps ds) ∧ (∃ ds, Vals [.int z] ds ∧ Binds K fd ps ds) ∧ KBn K fd ps (n - 1) [y] (fun us ws => us ++ ws) (fun vs zs => vs ++ zs)) (hn : ps.length = n) (hN : n ≤ N.length)
    (hbody : ∀ (f : Addr) (cdv : Value) (A : Around) (outer : List Env) (s : Shared) (H : Hp) (E : XK), Room k (A.deeper (envOfC x (defScope st) s.heap.objs.size f cdv)) → VSs (bodyX P w K mg base N κ x (defScope st) f cdv A outer s H E) (defBody st) t)
    (mo : Mono vsp) (rd : Rd n κ N.length vsp t) : Fdk P w K mg base x y z (k + 1) n vsp := by
  obtain ⟨f, fd, h1, F⟩ := hF
  obtain ⟨⟨d0, v0, b0⟩, b1, b2⟩ := hb F
  cases v0
  exact ⟨f, fd, ps, h1, F.kp, b0, b1, b2, fn_ok F S hn hN (hbody f) mo rd⟩
end
end VL
namespace VL
open PySem PySem.Spec PyProof.Rows L2 VL
end VL
namespace VL
open PySem PySem.Spec PyProof.Rows L2 VL
structure KeysIn (nm : List Cs) (M : Mem) : Prop where
  nd : (M.map (·.1)).Nodup
  sub : ∀ s ∈ M.map (·.1), s ∈ nm
theorem nd_sub_len {α : Type} [DecidableEq α] : ∀ {xs ys : List α}, xs.Nodup → (∀ x ∈ xs, x ∈ ys) → xs.length ≤ ys.length
  | [], ys, _, _ => Nat.zero_le _
  | x :: xs, ys, nd, h => by
    obtain ⟨h1, h2⟩ := List.nodup_cons.mp nd
    have hx : x ∈ ys := h x List.mem_cons_self
    have := nd_sub_len (xs := xs) (ys := ys.erase x) h2 fun y hy => (List.mem_erase_of_ne (fun e => h1 (by rw [← e]; exact hy))).mpr (h y (List.mem_cons_of_mem _ hy))
    rw [List.length_erase_of_mem hx] at this
    have lp : 0 < ys.length := List.length_pos_of_mem hx
    rw [List.length_cons]
    omega
theorem KeysIn.len {nm : List Cs} {M : Mem} (h : KeysIn nm M) : M.length ≤ nm.length := by
  have := nd_sub_len h.nd h.sub
  simpa using this
theorem KeysIn.nil {nm : List Cs} : KeysIn nm [] := ⟨List.nodup_nil, fun _ h => nomatch h⟩
theorem putM_keys : ∀ {M : Mem} {s : Cs} {v : Int}, (putM M s v).map (·.1) = if s ∈ M.map (·.1) then M.map (·.1) else M.map (·.1) ++ [s]
  | [], s, v => rfl
  | (t, w) :: M, s, v => by
    unfold putM
    by_cases h : t = s
    · subst h; simp
    · rw [if_neg h, List.map_cons, putM_keys (M := M)]
      have e : s ∈ List.map (·.1) ((t, w) :: M) ↔ s ∈ M.map (·.1) := by
        rw [List.map_cons, List.mem_cons]
        exact ⟨fun h2 => h2.resolve_left (fun e => h e.symm), .inr⟩
      by_cases h2 : s ∈ M.map (·.1)
      · rw [if_pos h2, if_pos (e.mpr h2)]; rfl
      · rw [if_neg h2, if_neg (fun z => h2 (e.mp z))]; rfl
theorem KeysIn.put {nm : List Cs} {M : Mem} (h : KeysIn nm M) {s : Cs} (hs : s ∈ nm) (v : Int) : KeysIn nm (putM M s v) := by
  refine ⟨?_, fun t ht => ?_⟩
  · rw [putM_keys]
    split
    · exact h.nd
    · rename_i hn
      exact List.nodup_append.mpr ⟨h.nd, by simp, fun a ha b hb e => by rw [List.mem_singleton.mp hb] at e; exact hn (e ▸ ha)⟩
  · rw [putM_keys] at ht
    split at ht
    · exact h.sub t ht
    · rcases List.mem_append.mp ht with ht | ht
      · exact h.sub t ht
      · rw [List.mem_singleton.mp ht]; exact hs
end VL
namespace VL
open PySem PySem.Spec PyProof.Rows L2 VL
end VL
namespace VL
open PySem PySem.Spec PyProof.Rows L2 VL
abbrev cYes : Cs := [121, 101, 115]
/-- a row whose goals are told by keys -/
inductive Sr where
  | sum (x : Cs) (a : Opd) (s : Cs) (b : Opd)
  | test (a : Opd) (s : Cs) (b : Opd) (h : Nat)
  | jump (c : Cs) (i : Int)
  | fin
def DefS (S : List Sr) (μ : Mks) (k : Nat) : Prop := match S[k]? with
  | some (.jump c i) => ∃ q, μ c i = some q ∧ q < S.length
  | some (.test _ _ _ h) => ∃ q, μ cYes (h : Int) = some q ∧ q < S.length
  | _ => True
def CtxS (S : List Sr) (μ : Mks) (c : Cs) (W : List Int) : Prop := ∀ n ∈ W, ∃ q, μ c n = some q ∧ q < S.length
theorem CtxS.snoc {S : List Sr} {μ : Mks} {c : Cs} {W : List Int} (h : CtxS S μ c W) {n : Int} {q : Nat} (h1 : μ c n = some q) (h2 : q < S.length) : CtxS S μ c (W ++ [n]) := fun m hm => by
  rcases List.mem_append.mp hm with hm | hm
  · exact h m hm
  · rw [List.mem_singleton.mp hm]; exact ⟨q, h1, h2⟩
end VL
namespace VL
open PySem PySem.Spec PyProof.Rows L2 VL
/-- nothing else is changed -/
structure FrR (μ μ' : Mks) (p q : Nat) (hs : List Int) : Prop where
  pos : ∀ c, c ≠ cLeave → c ≠ cAgain → ∀ k : Nat, (k < p ∨ q ≤ k) → μ' c (k : Int) = μ c (k : Int)
  hm : ∀ c, (c = cLeave ∨ c = cAgain) → ∀ n, n ∉ hs → μ' c n = μ c n
theorem FrR.refl {μ : Mks} {p q : Nat} {hs : List Int} : FrR μ μ p q hs := ⟨fun _ _ _ _ _ => rfl, fun _ _ _ _ => rfl⟩
theorem FrR.trans {μ1 μ2 μ3 : Mks} {p q r s : Nat} {a b : List Int} (h : FrR μ1 μ2 p q a) (k : FrR μ2 μ3 r s b) {P Q : Nat} {hs : List Int} (h1 : P ≤ p) (h2 : q ≤ Q) (h3 : P ≤ r) (h4 : s ≤ Q) (h5 : ∀ n ∈ a, n ∈ hs) (h6 : ∀ n ∈ b, n ∈ hs) : FrR μ1 μ3 P Q hs where
  pos c c1 c2 n hn := (k.pos c c1 c2 n (by omega)).trans (h.pos c c1 c2 n (by omega))
  hm c hc n hn := (k.hm c hc n fun z => hn (h6 n z)).trans (h.hm c hc n fun z => hn (h5 n z))
theorem FrR.put {μ : Mks} {c : Cs} (h1 : c ≠ cLeave) (h2 : c ≠ cAgain) {i v : Nat} : FrR μ (μ.put c (i : Int) v) i (i + 1) [] where
  pos d d1 d2 n hn := Mks.put_ne fun z => by have := z.2; omega
  hm d hd n hn := Mks.put_ne fun z => by rcases hd with e | e <;> (rw [e] at z; first | exact h1 z.1.symm | exact h2 z.1.symm)
section
variable {S : List Sr} {μ : Mks}
theorem DefS.jump {k : Nat} {c : Cs} {i : Int} (d : DefS S μ k) (h : S[k]? = some (.jump c i)) : μ.v c i < S.length := by
  unfold DefS at d
  rw [h] at d
  obtain ⟨q, h1, h2⟩ := d
  rw [Mks.v_of h1]
  exact h2
theorem DefS.test {k : Nat} {a : Opd} {s : Cs} {b : Opd} {h0 : Nat} (d : DefS S μ k) (h : S[k]? = some (.test a s b h0)) : μ.v cYes (h0 : Int) < S.length := by
  unfold DefS at d
  rw [h] at d
  obtain ⟨q, h1, h2⟩ := d
  rw [Mks.v_of h1]
  exact h2
end
theorem MG.on {c : Cd} {m p q : Nat} {M M1 : Mem} {ds : List Dd} {w : Cs} (s : Sl c p q) (h : MG c m p M ds w M1) : MG c m q M ds w M1 := by
  cases h with
  | ring h => exact .ring fun r k => h r (.back s k)
  | fin h h2 => exact .fin (.on s h) h2
  | full h h2 => exact .full (.on s h) h2
  | fault h h2 h3 => exact .fault (.on s h) h2 h3
  | sum h h2 h3 h4 => exact .sum (.on s h) h2 h3 h4
  | test h h2 h3 => exact .test (.on s h) h2 h3
end VL
namespace VL
open PySem PySem.Spec PyProof.Rows L2 VL
end VL
namespace VL
open PySem PySem.Spec PyProof.Rows L2 VL
end VL
namespace VL
open PySem PySem.Spec PyProof.Rows L2 VL
/-- the signs of a number -/
def intC (i : Int) : Cs := (Str.ofString (toString i)).cps.toList
def sStr : List D → (D → Prop) → Prop := fun ds Q => (∃ i : Int, ds = [.int i] ∧ i.natAbs.log2 < 1920 ∧ Q (.str (intC i))) ∨ ∃ s, ds = [.str s] ∧ Q (.str s)
theorem e_strS {s : Cs} {Q : D → Prop} : sStr [.str s] Q ↔ Q (.str s) := ⟨fun h => by rcases h with ⟨i, e, _⟩ | ⟨t, e, q⟩ <;> cases e; exact q, fun q => .inr ⟨s, rfl, q⟩⟩
/-- sep.join(texts) -/
def sJoin : List D → (D → Prop) → Prop := fun ds Q => ∃ a m ss, ds = [.str a, .lst m (strsD ss)] ∧ (ss.map (·.length)).sum + ss.length * a.length ≤ 16777216 ∧ Q (.str (TL.joinL a ss))
/-- text.split(sep) -/
def sSplit : List D → (D → Prop) → Prop := fun ds Q => ∃ a b, ds = [.str a, .str b] ∧ b ≠ [] ∧ b.all (· < 256) = true ∧ a.length < 1000000 ∧ Q (.lst true (strsD (TL.spl b 0 [] a)))
/-- text.partition(sep) -/
def partC (a b : Cs) : Cs × Cs × Cs := match TL.par b [] a with
  | some (p, q) => (p, b, q)
  | none => (a, [], [])
def sPart : List D → (D → Prop) → Prop := fun ds Q => ∃ a b, ds = [.str a, .str b] ∧ b ≠ [] ∧ a.length < 1000000 ∧ Q (.tup [.str (partC a b).1, .str (partC a b).2.1, .str (partC a b).2.2])
/-- text.startswith(start) -/
def sStarts : List D → (D → Prop) → Prop := fun ds Q => ∃ a b, ds = [.str a, .str b] ∧ Q (.bl (b.isPrefixOf a))
section
variable {a b : Cs} {m : Bool} {ss : List Cs} {Q : D → Prop}
theorem e_join : sJoin [.str a, .lst m (strsD ss)] Q ↔ (ss.map (·.length)).sum + ss.length * a.length ≤ 16777216 ∧ Q (.str (TL.joinL a ss)) := by
  refine ⟨fun ⟨_, _, _, e, h, q⟩ => ?_, fun ⟨h, q⟩ => ⟨_, _, _, rfl, h, q⟩⟩
  obtain ⟨e1, e2⟩ := List.cons.inj e
  cases e1
  have e3 := (List.map_inj_right (f := D.str) (fun _ _ h => D.str.inj h)).mp (D.lst.inj (List.cons.inj e2).1).2
  subst e3
  exact ⟨h, q⟩
theorem e_split : sSplit [.str a, .str b] Q ↔ b ≠ [] ∧ b.all (· < 256) = true ∧ a.length < 1000000 ∧ Q (.lst true (strsD (TL.spl b 0 [] a))) := ⟨fun ⟨_, _, e, h⟩ => by cases e; exact h, fun h => ⟨_, _, rfl, h⟩⟩
theorem e_part : sPart [.str a, .str b] Q ↔ b ≠ [] ∧ a.length < 1000000 ∧ Q (.tup [.str (partC a b).1, .str (partC a b).2.1, .str (partC a b).2.2]) := ⟨fun ⟨_, _, e, h⟩ => by cases e; exact h, fun h => ⟨_, _, rfl, h⟩⟩
theorem e_starts : sStarts [.str a, .str b] Q ↔ Q (.bl (b.isPrefixOf a)) := ⟨fun ⟨_, _, e, h⟩ => by cases e; exact h, fun h => ⟨_, _, rfl, h⟩⟩
end
end VL
namespace VL
open PySem PySem.Spec PyProof.Rows L2 VL
def sJoinA (a : Cs) : List D → (D → Prop) → Prop := fun ds Q => ∃ m ss, ds = [.lst m (strsD ss)] ∧ (ss.map (·.length)).sum + ss.length * a.length ≤ 16777216 ∧ Q (.str (TL.joinL a ss))
theorem e_joinA {a : Cs} {m : Bool} {ss : List Cs} {Q : D → Prop} : sJoinA a [.lst m (strsD ss)] Q ↔ (ss.map (·.length)).sum + ss.length * a.length ≤ 16777216 ∧ Q (.str (TL.joinL a ss)) := by
  refine ⟨fun ⟨_, _, e, h, q⟩ => ?_, fun ⟨h, q⟩ => ⟨_, _, rfl, h, q⟩⟩
  have e3 := (List.map_inj_right (f := D.str) (fun _ _ h => D.str.inj h)).mp (D.lst.inj (List.cons.inj e).1).2
  subst e3
  exact ⟨h, q⟩
end VL
namespace VL
open PySem PySem.Spec PyProof.Rows L2 VL
def sInG (neg : Bool) (ss : List Cs) : List D → (D → Prop) → Prop := fun ds Q => ∃ s, ds = [.str s] ∧ Q (.bl (if neg then !decide (s ∈ ss) else decide (s ∈ ss)))
theorem e_inG {neg : Bool} {s : Cs} {ss : List Cs} {Q : D → Prop} : sInG neg ss [.str s] Q ↔ Q (.bl (if neg then !decide (s ∈ ss) else decide (s ∈ ss))) := ⟨fun ⟨_, e, q⟩ => by cases e; exact q, fun q => ⟨_, rfl, q⟩⟩
end VL
namespace VL
open PySem PySem.Spec PyProof.Rows L2 VL
end VL
namespace VL
open PySem PySem.Spec PyProof.Rows L2 VL
def vM1 (op : List D → (D → Prop) → Prop) (ra rb : Option Nat) (to te : VTE) : VTE := fun N ε Q => to N ε fun x ε1 => (∃ s, x = .str s) ∧ te N ε1 fun y ε2 => op [x, y] fun d => Q d (restore [ra, rb] [x, y] ε2)
end VL
namespace VL
open PySem PySem.Spec PyProof.Rows L2 VL
/-- for .. in zip(still, ours) -/
def vForZO (j i : Nat) (g : VTG) (body : VTS) : VTS := fun N ε => ∃ ts m xs, ε[j]? = some (some (.lst false ts)) ∧ ε[i]? = some (some (.lst m xs)) ∧ isFzL ts = true ∧ isFzL xs = true ∧
  vForL g body (zipD ts xs) { nx := fun ε' => N.nx (ε'.set i (some (.lst m xs))), rt := fun d ε' => N.rt d (ε'.set i (some (.lst m xs))), rx := N.rx } (ε.set i none)
section
variable {X : Cv}
/-- a block over a list of ours, that is ours behind it -/
def vLcO (i : Nat) (own : List Nat) (w : List D → List D) (g : VTG) (tt : VTT) (te : VTE) : VTE := fun _ ε Q => ∃ m xs, ε[i]? = some (some (.lst m xs)) ∧ isFzL xs = true ∧
  vLcL own g tt te (w xs) [] (pull own (ε.set i none)).2.2 fun acc ε' => Q (.lst true acc) ((restore (pull own (ε.set i none)).1 (pull own (ε.set i none)).2.1 ε').set i (some (.lst m xs)))
end
end VL
namespace VL
open PySem PySem.Spec PyProof.Rows L2 VL
end VL
namespace VL
open PySem PySem.Spec PyProof.Rows L2 VL
mutual
/-- the numbers of rounds and parts, in the order of the text -/
def hmF : Fm → List Int
  | .choice _ _ _ Y Z e => hmL Y ++ (if e = true then hmL Z else [])
  | .round n B => n :: hmL B
  | .part n B => n :: hmL B
  | .sum _ _ _ _ => []
  | .leave _ => []
  | .again _ => []
  | .fin => []
def hmL : List Fm → List Int
  | [] => []
  | f :: fs => hmF f ++ hmL fs
end
/-- a word at the tail is none -/
def tl (lv : Bool) (n : Int) : Rs → Rs
  | (d, some (.leave m)) => if lv = true ∧ m = n then (d, some .nil) else (d, some (.leave m))
  | (d, some (.again m)) => if lv = false ∧ m = n then (d, some .nil) else (d, some (.again m))
  | r => r
theorem run_app (K : Nat) : ∀ (A B : List Fm) (d : Dds), runLs K (A ++ B) d = thenR (runLs K A d) fun d => runLs K B d
  | [], B, d => by rw [runLs]; rfl
  | f :: A, B, d => by
    rw [List.cons_append, runLs, runLs]
    obtain ⟨d', g, h⟩ : ∃ d' g, runFm K f d = (d', g) := ⟨_, _, rfl⟩
    rw [h]
    cases g with
    | none => rfl
    | some g =>
      cases g with
      | nil => exact run_app K A B d'
      | _ => rfl
/-- leaves of another -/
def rn (o m : Int) : Rs → Rs
  | (d, some (.leave n)) => (d, some (.leave (if n = o then m else n)))
  | r => r
mutual
def okF (W R : Int → Prop) : Fm → Prop
  | .leave n => W n
  | .again n => R n
  | .round n B => okL (fun k => k = n ∨ W k) (fun k => k = n ∨ R k) B
  | .part n B => okL (fun k => k = n ∨ W k) R B
  | .choice _ _ _ Y Z e => okL W R Y ∧ (if e = true then okL W R Z else True)
  | .sum _ _ _ _ => True
  | .fin => True
def okL (W R : Int → Prop) : List Fm → Prop
  | [] => True
  | f :: fs => okF W R f ∧ okL W R fs
end
mutual
theorem ok_monoF : ∀ (f : Fm) {W R W' R' : Int → Prop}, (∀ k, W k → W' k) → (∀ k, R k → R' k) → okF W R f → okF W' R' f
  | .leave n, W, R, W', R', hw, hr, h => by rw [okF] at h ⊢; exact hw n h
  | .again n, W, R, W', R', hw, hr, h => by rw [okF] at h ⊢; exact hr n h
  | .round n B, W, R, W', R', hw, hr, h => by
    rw [okF] at h ⊢
    exact ok_monoL B (fun k z => z.imp id (hw k)) (fun k z => z.imp id (hr k)) h
  | .part n B, W, R, W', R', hw, hr, h => by
    rw [okF] at h ⊢
    exact ok_monoL B (fun k z => z.imp id (hw k)) hr h
  | .choice a s b Y Z e, W, R, W', R', hw, hr, h => by
    rw [okF] at h ⊢
    refine ⟨ok_monoL Y hw hr h.1, ?_⟩
    cases e with
    | true => exact ok_monoL Z hw hr h.2
    | false => trivial
  | .sum x a s b, W, R, W', R', hw, hr, h => by rw [okF]; trivial
  | .fin, W, R, W', R', hw, hr, h => by rw [okF]; trivial
theorem ok_monoL : ∀ (F : List Fm) {W R W' R' : Int → Prop}, (∀ k, W k → W' k) → (∀ k, R k → R' k) → okL W R F → okL W' R' F
  | [], W, R, W', R', hw, hr, h => by rw [okL]; trivial
  | f :: fs, W, R, W', R', hw, hr, h => by
    rw [okL] at h ⊢
    exact ⟨ok_monoF f hw hr h.1, ok_monoL fs hw hr h.2⟩
end
end VL
namespace VL
open PySem PySem.Spec PyProof.Rows L2 PySem.Calls
section
variable {X : Cv}
/-- o.setdefault(n, m): n's number, or m as n's number -/
def vSetd (i : Nat) (t : VTP) (te : VTVs) : VTE := fun N ε Q => t N ε fun p => ∃ d0 ks ds, ε[i]? = some (some d0) ∧ getP d0 p = some (.dK true ks ds) ∧ te ε fun es => ∃ n m : Int, es = [.int n, .int m] ∧ ds.length < 1000000 ∧ isFzL ds = true ∧
  match kIx ks (.inl n) with
  | some j => ∃ z : Int, ds[j]? = some (.int z) ∧ Q (.int z) ε
  | none => Q (.int m) (ε.set i (some (setP d0 p (.dK true (ks ++ [.inl n]) (ds ++ [.int m])))))
end
end VL
namespace VL
open PySem PySem.Spec PyProof.Rows L2 VL
def vAddL (t1 t2 : VTE) : VTE := fun N ε Q => t1 N ε fun x ε1 => t2 N ε1 fun y ε2 => ∃ m xs ys, x = .lst m xs ∧ y = .lst true ys ∧ isFzL xs = true ∧ xs.length + ys.length < 1000000 ∧ Q (.lst true (xs ++ ys)) ε2
end VL
namespace VL
open PySem PySem.Spec PyProof.Rows L2 VL
section
variable {K : PySem.W.Frag} {G H : Hp}
theorem RpS.view (hs : Sub G H) : ∀ {ε : Ep} {σ : L2.St} {F : List Addr}, RpS K G H ε σ F → RpS K H H (ε.map (Option.map frz)) σ []
  | [], σ, F, h => ⟨h.1, rfl⟩
  | od :: ε, σ, F, h => by
    obtain ⟨ov, σ', F1, F2, rfl, rfl, r, rs⟩ := h
    refine ⟨ov, σ', [], [], rfl, rfl, ?_, rs.view hs⟩
    cases od with
    | none => rfl
    | some d =>
      obtain ⟨v, e, r⟩ := r
      exact ⟨v, e, r.view hs⟩
end
def vPeek (t : VTE) : VTE := fun _ ε Q => t noX (ε.map (Option.map frz)) fun d _ => ∃ ds, d = .lst true ds ∧ ds.all flatD = true ∧ Q (.lst true ds) ε
/-- seen as if all stood still -/
theorem SI.look {K : PySem.W.Frag} {b : Bs} {σ : L2.St} {H : Hp} {ε : Ep} {T : List D} {Tv : List V} (I : SI K b σ H ε T Tv) : SI K (callB H H []) σ H (ε.map (Option.map frz)) [] [] := by
  obtain ⟨G, F, Ft, J⟩ := I
  exact ⟨H, [], [], Sub.refl, Sub.refl, J.slots.view J.sub, ⟨rfl, rfl⟩, List.nodup_nil, (fun _ z => nomatch z), (fun _ z => nomatch z), (fun a o e => .inl e), (fun a o e _ => e), fun j v e => by simp [callB] at e⟩
end VL
namespace VL
open PySem PySem.Spec PyProof.Rows L2 VL
mutual
def gdF : Fm → Bool
  | .sum x a s b => Cs.good x && (a.good && (Cs.good s && b.good))
  | .choice a s b Y Z e => (a.good && (Cs.good s && b.good)) && (gdL Y && (if e = true then gdL Z else true))
  | .round _ B => gdL B
  | .part _ B => gdL B
  | .leave _ => true
  | .again _ => true
  | .fin => true
def gdL : List Fm → Bool
  | [] => true
  | f :: fs => gdF f && gdL fs
end
theorem dp_app (A B : List Fm) : dpL (A ++ B) = max (dpL A) (dpL B) := by
  induction A with
  | nil => rw [List.nil_append, dpL]; omega
  | cons f A ih => rw [List.cons_append, dpL, dpL, ih]; omega
theorem dp_one (f : Fm) : dpL [f] = dpF f := by rw [dpL, dpL]; omega
mutual
def nsF : Fm → Nat
  | .choice _ _ _ Y Z e => nsL Y + (if e = true then nsL Z else 0) + 1
  | .round _ B => nsL B + 1
  | .part _ B => nsL B + 1
  | .sum _ _ _ _ => 1
  | .leave _ => 1
  | .again _ => 1
  | .fin => 1
def nsL : List Fm → Nat
  | [] => 0
  | f :: fs => nsF f + nsL fs
end
end VL
namespace VL
open PySem PySem.Spec PyProof.Rows L2 VL
end VL
namespace VL
open PySem PySem.Spec PyProof.Rows L2 VL
inductive FrH where
  | form
  | choice (a : Opd) (s : Cs) (b : Opd)
  | part (n : Int)
  | round (n : Int)
structure Fr where
  h : FrH
  yes : Option (List Fm)
  own : List Fm
def FrH.ns : FrH → List Int
  | .part n => [n]
  | .round n => [n]
  | _ => []
def FrH.isForm : FrH → Bool
  | .form => true
  | _ => false
def FrH.isCh : FrH → Bool
  | .choice _ _ _ => true
  | _ => false
def FrH.ok : FrH → Prop
  | .choice a s b => a.good = true ∧ Cs.good s = true ∧ b.good = true
  | _ => True
/-- the names that the laws of tidying draw -/
def allNm : List Cs := [[120], [121], [122], [119], [97, 98], [97, 97], [98, 98], [98, 97], [113, 49], [113], [113, 49, 49], [113, 50], [115, 117, 109, 49, 97, 97, 97, 97], [115, 117, 109, 49, 97, 97, 97, 98], [115, 117, 109, 50, 97, 97, 97, 97], [116, 117, 109, 49, 97, 97, 97, 97]]
def LnC : Ln → Prop
  | .sum x a _ b => (OpB 61 a ∧ OpB 61 b) ∧ x ∈ allNm
  | _ => True
theorem LnC.b {l : Ln} (h : LnC l) : LnB l := by
  cases l with
  | sum x a s b => exact h.1
  | _ => trivial
/-- what a list of statements keeps -/
structure FmsOk (W R : Int → Prop) (F : List Fm) : Prop where
  ok : okL W R F
  gd : gdL F = true
  lb : ∀ l ∈ lnsL F, LnC l
theorem FmsOk.nil {W R : Int → Prop} : FmsOk W R [] := ⟨by rw [okL]; trivial, rfl, fun l hl => by rw [lnsL] at hl; exact nomatch hl⟩
def LvS (st : List Fr) (k : Int) : Prop := ∃ f ∈ st, f.h = .round k ∨ f.h = .part k
def AgS (st : List Fr) (k : Int) : Prop := ∃ f ∈ st, f.h = .round k
/-- a stack of frames, the top first -/
def StOk : List Fr → Prop
  | [] => True
  | f :: st => (FmsOk (LvS (f :: st)) (AgS (f :: st)) f.own ∧ dpL f.own + st.length ≤ 30) ∧ (∀ Y, f.yes = some Y → FmsOk (LvS (f :: st)) (AgS (f :: st)) Y ∧ dpL Y + st.length ≤ 30) ∧ f.h.ok ∧ (f.h.isForm = true ↔ st = []) ∧ StOk st
def frN (f : Fr) : List Int := f.h.ns ++ ((f.yes.elim [] hmL) ++ hmL f.own)
def stN (st : List Fr) : List Int := st.flatMap frN
def frC (f : Fr) : Nat := 1 + ((f.yes.elim 0 nsL) + nsL f.own)
def stC : List Fr → Nat
  | [] => 0
  | f :: st => frC f + stC st
theorem FmsOk.mono {W R W' R' : Int → Prop} {F : List Fm} (hw : ∀ k, W k → W' k) (hr : ∀ k, R k → R' k) (h : FmsOk W R F) : FmsOk W' R' F := ⟨ok_monoL F hw hr h.ok, h.gd, h.lb⟩
end VL
namespace VL
open PySem PySem.Spec PyProof.Rows L2 VL
structure FrsOk (k : Nat) (st : List Fr) : Prop where
  ok : StOk st
  ne : st ≠ []
  nd : (stN st).Nodup
  lt : ∀ n ∈ stN st, n < 97 * (k : Int)
  hy : ∀ f ∈ st, ∀ Y, f.yes = some Y → f.h.isCh = true
theorem FrsOk.up {k j : Nat} {st : List Fr} (h : FrsOk k st) (l : k ≤ j) : FrsOk j st := ⟨h.ok, h.ne, h.nd, fun n hn => by have := h.lt n hn; omega, h.hy⟩
theorem FrsOk.init : FrsOk 0 [⟨.form, none, []⟩] := by
  refine ⟨⟨⟨FmsOk.nil, by rw [dpL]; decide⟩, (fun Y e => nomatch e), trivial, ⟨fun _ => rfl, fun _ => rfl⟩, trivial⟩, (fun z => nomatch z), ?_, ?_, ?_⟩
  · show ((([] : List Int) ++ ([] ++ hmL [])) ++ []).Nodup
    rw [hmL]; exact List.nodup_nil
  · show ∀ n ∈ ((([] : List Int) ++ ([] ++ hmL [])) ++ []), _
    rw [hmL]; exact fun n hn => nomatch hn
  · intro f hf Y e
    rw [List.mem_singleton.mp hf] at e
    exact nomatch e
/-- a frame is opened -/
theorem FrsOk.push {k : Nat} {st : List Fr} {hd : FrH} (h : FrsOk k st) (l : st.length ≤ 29) (g : hd.ok) (nf : hd.isForm = false) (fresh : ∀ n ∈ hd.ns, n < 97 * (k : Int) ∧ n ∉ stN st) : FrsOk k (⟨hd, none, []⟩ :: st) := by
  have e : stN (⟨hd, none, []⟩ :: st) = hd.ns ++ stN st := by
    show (hd.ns ++ ([] ++ hmL [])) ++ stN st = _
    rw [hmL, List.append_nil, List.append_nil]
  have one : hd.ns.Nodup := by cases hd <;> simp [FrH.ns]
  refine ⟨⟨⟨FmsOk.nil, by show dpL [] + st.length ≤ 30; rw [dpL]; omega⟩, (fun Y e => nomatch e), g, ⟨fun z => (by have : hd.isForm = true := z; rw [nf] at this; exact nomatch this), fun z => absurd z h.ne⟩, h.ok⟩, (fun z => nomatch z), ?_, ?_, ?_⟩
  · rw [e, List.nodup_append]
    exact ⟨one, h.nd, fun a ha b hb z => (fresh a ha).2 (z ▸ hb)⟩
  · rw [e]
    intro n hn
    rcases List.mem_append.mp hn with hn | hn
    · exact (fresh n hn).1
    · exact h.lt n hn
  · intro f hf
    rcases List.mem_cons.mp hf with rfl | hf
    · exact fun Y e => nomatch e
    · exact h.hy f hf
/-- the form when all else is closed -/
theorem FrsOk.fin {k : Nat} {f : Fr} (h : FrsOk k [f]) : (okL (fun _ => False) (fun _ => False) f.own ∧ gdL f.own = true ∧ (∀ l ∈ lnsL f.own, LnC l)) ∧ dpL f.own ≤ 30 ∧ (hmL f.own).Nodup ∧ nsL f.own < stC [f] ∧ f.h.isForm = true ∧ f.yes = none := by
  have isf := h.ok.2.2.2.1.mpr rfl
  have hfm : f.h = .form := by
    cases e : f.h with
    | form => rfl
    | _ => rw [e] at isf; exact nomatch isf
  have hy : f.yes = none := by
    cases e : f.yes with
    | none => rfl
    | some Y => have := h.hy f (List.mem_cons_self ..) Y e; rw [hfm] at this; exact nomatch this
  obtain ⟨⟨h1, h2⟩, _⟩ := h.ok
  have hw : ∀ n, LvS [f] n → False := fun n ⟨x, hx, e⟩ => by
    rw [List.mem_singleton.mp hx, hfm] at e
    rcases e with e | e <;> exact nomatch e
  have hr : ∀ n, AgS [f] n → False := fun n ⟨x, hx, e⟩ => by
    rw [List.mem_singleton.mp hx, hfm] at e
    exact nomatch e
  refine ⟨⟨ok_monoL _ hw hr h1.ok, h1.gd, h1.lb⟩, h2, ?_, ?_, isf, hy⟩
  · have := h.nd
    have e : stN [f] = hmL f.own := by
      show (f.h.ns ++ (f.yes.elim [] hmL ++ hmL f.own)) ++ [] = _
      rw [hfm, hy, List.append_nil]; rfl
    rw [e] at this
    exact this
  · show nsL f.own < 1 + (f.yes.elim 0 nsL + nsL f.own) + 0
    rw [hy]
    show nsL f.own < 1 + (0 + nsL f.own) + 0
    omega
end VL
namespace VL
open PySem PySem.Spec PyProof.Rows L2 VL
def FrH.d : FrH → D
  | .form => .tup [.str [102, 111, 114, 109]]
  | .choice a s b => .tup [.str cChoice, opD a, .str s, opD b]
  | .part n => .tup [.str cPart, .int n]
  | .round n => .tup [.str cRound, .int n]
theorem fms_one (F : List Fm) (x : Fm) : fmsD F ++ [fmD x] = fmsD (F ++ [x]) := by rw [fmsD_map, fmsD_map, List.map_append]; rfl
end VL
namespace VL
open PySem PySem.Spec PyProof.Rows L2 VL
theorem lcFilt {α : Type} {tt tt' : VTT} {te te' : VTE} {i : Nat} {ε : Ep} {Q : List D → Ep → Prop} {p : α → Bool} {f g : α → D} (ht : tt = tt') (he : te = te') : ∀ (ks : List α) (acc : List D),
    (∀ k ∈ ks, ∀ P : Bool → Ep → Prop, P (p k) (ε.set i (some (g k))) → tt' noX (ε.set i (some (g k))) P) →
    (∀ k ∈ ks, p k = true → ∀ P : D → Ep → Prop, P (f k) (ε.set i (some (g k))) → te' noX (ε.set i (some (g k))) P) → ε[i]? = some none → acc.length + ks.length ≤ 1000000 → Q (acc ++ (ks.filter p).map f) ε → vLcL [i] (vName i) tt te (ks.map g) acc ε Q
  | [], acc, _, _, _, _, q => by
    rw [List.filter_nil, List.map_nil, List.append_nil] at q
    exact q
  | k :: ks, acc, h1, h2, hn, hl, q => by
    subst ht he
    have hl : acc.length + (ks.length + 1) ≤ 1000000 := hl
    rw [List.map_cons]
    refine ⟨(List.getElem?_eq_some_iff.mp hn).1, ?_⟩
    have e : forgetE [i] (ε.set i (some (g k))) = ε := ep_back hn _
    refine h1 k List.mem_cons_self _ ?_
    by_cases hp : p k = true
    · rw [if_pos hp]
      refine h2 k List.mem_cons_self hp _ ⟨by omega, ?_⟩
      rw [e]
      refine lcFilt rfl rfl ks (acc ++ [f k]) (fun k2 h => h1 k2 (List.mem_cons_of_mem _ h)) (fun k2 h => h2 k2 (List.mem_cons_of_mem _ h)) hn (by rw [List.length_append, List.length_singleton]; omega) ?_
      rw [List.filter_cons_of_pos hp, List.map_cons] at q
      rw [List.append_assoc]
      exact q
    · rw [if_neg hp, e]
      refine lcFilt rfl rfl ks acc (fun k2 h => h1 k2 (List.mem_cons_of_mem _ h)) (fun k2 h => h2 k2 (List.mem_cons_of_mem _ h)) hn (by omega) ?_
      rw [List.filter_cons_of_neg hp] at q
      exact q
end VL
namespace VL
open PySem PySem.Spec PyProof.Rows L2 VL
end VL
namespace VL
open PySem PySem.Spec PyProof.Rows L2 VL
end VL
namespace VL
open PySem PySem.Spec PyProof.Rows L2 VL
/-- every deed of the lines keeps I, and is a small one -/
structure KeepI (I : Dds → Prop) (L : List Ln) : Prop where
  few : ∀ d, I d → d.mem.length < 100000 ∧ d.done.length < 100000
  sum : ∀ x a s b, Ln.sum x a s b ∈ L → ∀ d, I d → ¬d.most ≤ (d.done.length : Int) → Sm (worthM d.mem b) ∧ ∀ v, madeV s (worthM d.mem a) (worthM d.mem b) = some v → I ⟨putM d.mem x v, d.most, d.done ++ [.sum x (worthM d.mem a) s (worthM d.mem b) v]⟩
  test : ∀ a s b, Ln.iff a s b ∈ L → ∀ d, I d → ¬d.most ≤ (d.done.length : Int) → I (testD d a s b)
theorem KeepI.mono {I : Dds → Prop} {L L' : List Ln} (h : KeepI I L) (s : ∀ l ∈ L', l ∈ L) : KeepI I L' := ⟨h.few, fun x a s' b hl => h.sum x a s' b (s _ hl), fun a s' b hl => h.test a s' b (s _ hl)⟩
mutual
theorem kpF {I : Dds → Prop} {K : Nat} : ∀ (f : Fm), KeepI I (lnsF f) → ∀ d, Keep I d (runFm K f d)
  | .sum x a s b, ok, d => fun h => by
    have o := ok.sum x a s b (by rw [lnsF]; exact List.mem_cons_self) d h
    rw [runFm]
    unfold sumR
    split
    · exact ⟨⟨[], .refl d⟩, h⟩
    · next e =>
      obtain ⟨_, o2⟩ := o e
      cases hv : madeV s (worthM d.mem a) (worthM d.mem b) with
      | none => exact ⟨⟨[], .refl d⟩, h⟩
      | some v => exact ⟨⟨_, grow1 e⟩, o2 v hv⟩
  | .choice a s b Y Z e, ok, d => fun h => by
    have okY : KeepI I (lnsL Y) := ok.mono fun l hl => by rw [lnsF]; exact List.mem_cons_of_mem _ (List.mem_append_left _ hl)
    rw [runFm]
    split
    · exact ⟨⟨[], .refl d⟩, h⟩
    · next e0 =>
      have g : Grow d (testD d a s b) [.test (worthM d.mem a) s (worthM d.mem b) (holdsV s (worthM d.mem a) (worthM d.mem b))] := grow1 e0
      have h1 : I (testD d a s b) := ok.test a s b (by rw [lnsF]; exact List.mem_cons_self) d h e0
      split
      · obtain ⟨⟨ds, g2⟩, h2⟩ := kpL (K := K) Y okY (testD d a s b) h1
        exact ⟨⟨_, g.trans g2⟩, h2⟩
      · split
        · next e2 =>
          have okZ : KeepI I (lnsL Z) := ok.mono fun l hl => by
            rw [lnsF, if_pos e2]
            exact List.mem_cons_of_mem _ (List.mem_append_right _ (List.mem_append_left _ (List.mem_cons_of_mem _ hl)))
          obtain ⟨⟨ds, g2⟩, h2⟩ := kpL (K := K) Z okZ (testD d a s b) h1
          exact ⟨⟨_, g.trans g2⟩, h2⟩
        · exact ⟨⟨_, g⟩, h1⟩
  | .round n B, ok, d => by
    have okB : KeepI I (lnsL B) := ok.mono fun l hl => by rw [lnsF]; exact List.mem_cons_of_mem _ (List.mem_append_left _ hl)
    rw [runFm]
    exact loop_keep (kpL B okB) K d
  | .part n B, ok, d => fun h => by
    have okB : KeepI I (lnsL B) := ok.mono fun l hl => by rw [lnsF]; exact List.mem_cons_of_mem _ (List.mem_append_left _ hl)
    have b := kpL (K := K) B okB d h
    rw [runFm]
    obtain ⟨d', e, hbd⟩ : ∃ d' e, runLs K B d = (d', e) := ⟨_, _, rfl⟩
    rw [hbd] at b ⊢
    cases e with
    | none => exact b
    | some e =>
      cases e with
      | leave m =>
        show (∃ ds, Grow d (if m = n then (d', some .nil) else (d', some (.leave m)) : Rs).1 ds) ∧ I (if m = n then (d', some .nil) else (d', some (.leave m)) : Rs).1
        split <;> exact b
      | _ => exact b
  | .leave n, ok, d => fun h => by rw [runFm]; exact ⟨⟨[], .refl d⟩, h⟩
  | .again n, ok, d => fun h => by rw [runFm]; exact ⟨⟨[], .refl d⟩, h⟩
  | .fin, ok, d => fun h => by rw [runFm]; exact ⟨⟨[], .refl d⟩, h⟩
theorem kpL {I : Dds → Prop} {K : Nat} : ∀ (F : List Fm), KeepI I (lnsL F) → ∀ d, Keep I d (runLs K F d)
  | [], ok, d => fun h => by rw [runLs]; exact ⟨⟨[], .refl d⟩, h⟩
  | f :: F, ok, d => fun h => by
    have b := kpF (K := K) f (ok.mono fun l hl => by rw [lnsL]; exact List.mem_append_left _ hl) d h
    rw [runLs]
    obtain ⟨d', e, hbd⟩ : ∃ d' e, runFm K f d = (d', e) := ⟨_, _, rfl⟩
    rw [hbd] at b ⊢
    obtain ⟨⟨ds, g⟩, h1⟩ := b
    have g : Grow d d' ds := g
    have h1 : I d' := h1
    cases e with
    | none => exact ⟨⟨ds, g⟩, h1⟩
    | some e =>
      cases e with
      | nil =>
        obtain ⟨⟨ds2, g2⟩, h2⟩ := kpL (K := K) F (ok.mono fun l hl => by rw [lnsL]; exact List.mem_append_right _ hl) d' h1
        exact ⟨⟨_, g.trans g2⟩, h2⟩
      | _ => exact ⟨⟨ds, g⟩, h1⟩
end
/-- what a run of four thousand turns asks -/
def PreI (d : Dds) (L : List Ln) : Prop := d.rem < 4000 ∧ ∃ I : Dds → Prop, KeepI I L ∧ I d
theorem PreI.mono {d : Dds} {L L' : List Ln} (h : PreI d L) (s : ∀ l ∈ L', l ∈ L) : PreI d L' := ⟨h.1, let ⟨I, k, i⟩ := h.2; ⟨I, k.mono s, i⟩⟩
theorem PreI.few {d : Dds} {L : List Ln} (h : PreI d L) : d.mem.length < 100000 ∧ d.done.length < 100000 := let ⟨_, k, i⟩ := h.2; k.few d i
theorem PreI.stepF {d d' : Dds} {g : Option Gs} {f : Fm} {L L' : List Ln} (h : PreI d L) (hf : ∀ l ∈ lnsF f, l ∈ L) (h2 : ∀ l ∈ L', l ∈ L) (e : runFm 4000 f d = (d', g)) : (∃ ds, Grow d d' ds) ∧ PreI d' L' := by
  obtain ⟨r, I, k, i⟩ := h
  obtain ⟨⟨ds, gr⟩, o⟩ := kpF (K := 4000) f (k.mono hf) d i
  rw [e] at gr o
  have gr : Grow d d' ds := gr
  have o : I d' := o
  have := gr.rem
  exact ⟨⟨ds, gr⟩, by omega, I, k.mono h2, o⟩
theorem PreI.stepL {d d' : Dds} {g : Option Gs} {F : List Fm} {L L' : List Ln} (h : PreI d L) (hf : ∀ l ∈ lnsL F, l ∈ L) (h2 : ∀ l ∈ L', l ∈ L) (e : runLs 4000 F d = (d', g)) : (∃ ds, Grow d d' ds) ∧ PreI d' L' := by
  obtain ⟨r, I, k, i⟩ := h
  obtain ⟨⟨ds, gr⟩, o⟩ := kpL (K := 4000) F (k.mono hf) d i
  rw [e] at gr o
  have gr : Grow d d' ds := gr
  have o : I d' := o
  have := gr.rem
  exact ⟨⟨ds, gr⟩, by omega, I, k.mono h2, o⟩
end VL
namespace VL
open PySem PySem.Spec PyProof.Rows L2 VL
def rngD (hi : Int) (n : Nat) : List D := (List.range n).map fun (i : Nat) => D.int (hi + (i : Int) * -1)
theorem rngD_get {hi : Int} {n i : Nat} {d : D} (h : (rngD hi n)[i]? = some d) : i < n ∧ d = .int (hi + (i : Int) * -1) := by
  unfold rngD at h
  rw [List.getElem?_map] at h
  cases e : (List.range n)[i]? with
  | none => rw [e] at h; cases h
  | some j =>
    rw [e] at h
    cases h
    obtain ⟨h1, h2⟩ := List.getElem?_eq_some_iff.mp e
    rw [List.getElem_range] at h2
    subst h2
    exact ⟨by simpa using h1, rfl⟩
theorem rngD_len (hi : Int) (n : Nat) : (rngD hi n).length = n := by simp [rngD]
theorem wk_rngD {K : PySem.W.Frag} {hi : Int} {n : Nat} : Wk K (Itc hi (-1) n) (rngD hi n) [] [] := fun b σ H ε T Tv i hl I => by
  refine ⟨fun d hd => ?_, fun h => by rw [rngD_len] at h; exact h⟩
  obtain ⟨hi, rfl⟩ := rngD_get hd
  refine ⟨hi, fun x H' y => ?_⟩
  obtain ⟨rfl, rfl⟩ := y
  have I2 : SI K b σ H' ε T Tv := by simpa using I
  exact I2.push fun G => ⟨rfl, rfl⟩
def viRd (t : VTA) : VTA := fun N ε Q => t N ε fun ds ε1 => ∃ i j : Int, ds = [.int i, .int j, .int (-1)] ∧ (-(2 ^ 62) ≤ i ∧ i < 2 ^ 62 ∧ -(2 ^ 62) ≤ j ∧ j < 2 ^ 62) ∧ Q (rngD i (i - j).toNat) ε1
theorem SI.last3 {K : PySem.W.Frag} {b : Bs} {σ : L2.St} {H : Hp} {ε : Ep} {T : List D} {Tv : List V} {i j k : Int} {u v w : V} (I : SI K b σ H ε (T ++ [.int i, .int j, .int k]) (Tv ++ [u, v, w])) (hl : T.length = Tv.length) : u = .int i ∧ v = .int j ∧ w = .int k := by
  obtain ⟨G, F, Ft, J⟩ := I
  obtain ⟨F1, F2, rfl, r1, r2⟩ := J.temps.split2 hl
  obtain ⟨v1, vs1, A1, B1, e1, rfl, ra, v2, vs2, A2, B2, e2, rfl, rb, v3, vs3, A3, B3, e3, rfl, rc, _⟩ := r2
  cases e1
  cases e2
  cases e3
  exact ⟨ra.1, rb.1, rc.1⟩
section
variable {X : Cv} {tg : Expr}
theorem vi_rangeD {a c d : Expr} {t : VTA} {p pos : Pos} (hg : Gl X.toCx "range") (hm : X.mg "range" = none) (ha : VA X [a, c, d] [none, none, none] t) (hs : starEach [a, c, d] X.env = (false, eval a X.env) :: starEach [c, d] X.env := by rfl) (hpl : (backTo pos (starEach [c, d] X.env)).any (·.1) = false := by rfl) : VI X tg (.Call (.Name "range" p) [a, c, d] [] pos) (viRd t) := by
  obtain ⟨t', a1, a2⟩ := ha.ex
  refine ⟨fun W => iRng3 (t' W), fun W tk => pi_range3 hg hm (a1 W tk) hs hpl, fun b σ H ε T Tv W N Q Q' I q k x => ?_⟩
  refine a2 b σ H ε T Tv W N _ _ I q (fun ds vs ε1 H1 J l hh z => ?_) x
  obtain ⟨i, j, rfl, ⟨h1, h2, h3, h4⟩, z⟩ := z
  obtain ⟨u, v, w, rfl⟩ : ∃ u v w, vs = [u, v, w] := by
    match vs, l with
    | [u, v, w], _ => exact ⟨u, v, w, rfl⟩
  obtain ⟨rfl, rfl, rfl⟩ := J.last3 I.lenT
  exact ⟨i, j, -1, _, rfl, RgC.neg h1 h2 h3 h4, k _ [] [] _ ε1 H1 (by simpa using J.drop I.lenT) rfl wk_rngD z⟩
end
end VL
namespace VL
open PySem PySem.Spec PyProof.Rows L2 VL
end VL
namespace Pk53
open PySem PySem.Spec PyProof.Rows L2 VL
def top (i : Nat) : Stmt := PySem.Challenge.pw_unjump_k53_spinning.main.body.getD i (.Pass ⟨0, 0, 0, 0⟩)
abbrev s_Deeds_told : Stmt := inClass (top 8) 6
abbrev s_Deeds_test_of : Stmt := inClass (top 8) 5
abbrev s_Deeds_sum_of : Stmt := inClass (top 8) 4
abbrev s_Deeds_name_of : Stmt := inClass (top 8) 3
abbrev s_Deeds_worth_of : Stmt := inClass (top 8) 2
abbrev s_Deeds_full : Stmt := inClass (top 8) 1
abbrev s_Deeds_init : Stmt := inClass (top 8) 0
abbrev s_made : Stmt := top 4
abbrev s_holds : Stmt := top 5
abbrev s_worth : Stmt := top 6
abbrev s_run_round : Stmt := top 10
abbrev s_run_statement : Stmt := top 11
abbrev s_run_list : Stmt := top 12
abbrev s_run_form : Stmt := top 13
abbrev s_Lraw : Stmt := top 15
abbrev s_Lmix : Stmt := top 16
abbrev s_Lalike : Stmt := top 17
abbrev s_Lsame_memory : Stmt := top 18
abbrev s_Lcounting : Stmt := top 19
abbrev s_Lspin : Stmt := top 20
abbrev s_Llast : Stmt := top 21
abbrev s_Lwithin : Stmt := top 22
abbrev s_Ldeeds : Stmt := top 23
abbrev s_Lword : Stmt := top 24
abbrev s_law : Stmt := top 25
def RLx : List String := ["ByNought"]
def xt_ByNought : XTab := xtab [("ByNought", true)]
def ctx : List (XC × XTab) := [(.own "ByNought", xt_ByNought)]
def ktx : List (XC × (String → Bool)) := []
abbrev s_ini : Stmt := inClass (top 1) 0
def sp_Deeds_told : VSp := Fsp (fun a : Dds × Cs => [ddsD true a.1, .str a.2]) (fun _ => True) fun a => toldD (a.1.done, a.2, a.1.mem)
theorem mono_Deeds_told : Mono sp_Deeds_told := Fsp.mono
theorem c_Deeds_told {d : Dds} {w : Cs} {A : D → List D → Prop} {B : Value → D → List D → Prop} (q : A (toldD (d.done, w, d.mem)) [ddsD true d, .str w]) : sp_Deeds_told [ddsD true d, .str w] A B := ⟨(d, w), rfl, trivial, q⟩
structure TestA where
  d : Dds
  a : Opd
  s : Cs
  b : Opd
def TestA.t (a : TestA) : Bool := holdsV a.s (worthM a.d.mem a.a) (worthM a.d.mem a.b)
def sp_Deeds_test_of : VSp := Fsp (fun a : TestA => [ddsD true a.d, opD a.a, .str a.s, opD a.b]) (fun a => a.d.done.length < 1000000) (fun a => .bl a.t) fun a => [ddsD true ⟨a.d.mem, a.d.most, a.d.done ++ [.test (worthM a.d.mem a.a) a.s (worthM a.d.mem a.b) a.t]⟩, opD a.a, .str a.s, opD a.b]
theorem mono_Deeds_test_of : Mono sp_Deeds_test_of := Fsp.mono
theorem c_Deeds_test_of {d : Dds} {s : Cs} {a b : Opd} {A : D → List D → Prop} {B : Value → D → List D → Prop} (h : d.done.length < 1000000)
    (q : A (.bl (holdsV s (worthM d.mem a) (worthM d.mem b))) [ddsD true ⟨d.mem, d.most, d.done ++ [.test (worthM d.mem a) s (worthM d.mem b) (holdsV s (worthM d.mem a) (worthM d.mem b))]⟩, opD a, .str s, opD b]) : sp_Deeds_test_of [ddsD true d, opD a, .str s, opD b] A B := ⟨⟨d, a, s, b⟩, rfl, h, q⟩
structure SumA where
  d : Dds
  x : Cs
  a : Opd
  s : Cs
  b : Opd
def SumA.args (a : SumA) : List D := [ddsD true a.d, .str a.x, opD a.a, .str a.s, opD a.b]
def sp_Deeds_sum_of : VSp := fun ds Q E => ∃ a : SumA, ds = a.args ∧ (Sm (worthM a.d.mem a.b) ∧ a.d.mem.length < 1000000 ∧ a.d.done.length < 1000000) ∧ match madeV a.s (worthM a.d.mem a.a) (worthM a.d.mem a.b) with
  | some v => Q .non [ddsD true ⟨putM a.d.mem a.x v, a.d.most, a.d.done ++ [.sum a.x (worthM a.d.mem a.a) a.s (worthM a.d.mem a.b) v]⟩, .str a.x, opD a.a, .str a.s, opD a.b]
  | none => E (.type "ByNought") .non a.args
theorem mono_Deeds_sum_of : Mono sp_Deeds_sum_of := fun ds A A' B B' hA hB ⟨a, e, p, q⟩ => ⟨a, e, p, by
  cases h : madeV a.s (worthM a.d.mem a.a) (worthM a.d.mem a.b) with
  | some r => rw [h] at q; exact hA _ _ q
  | none => rw [h] at q; exact hB _ _ _ q⟩
theorem c_Deeds_sum_of {d : Dds} {x s : Cs} {a b : Opd} {A : D → List D → Prop} {B : Value → D → List D → Prop} (h : Sm (worthM d.mem b) ∧ d.mem.length < 1000000 ∧ d.done.length < 1000000)
    (q : match madeV s (worthM d.mem a) (worthM d.mem b) with
      | some v => A .non [ddsD true ⟨putM d.mem x v, d.most, d.done ++ [.sum x (worthM d.mem a) s (worthM d.mem b) v]⟩, .str x, opD a, .str s, opD b]
      | none => B (.type "ByNought") .non [ddsD true d, .str x, opD a, .str s, opD b]) : sp_Deeds_sum_of [ddsD true d, .str x, opD a, .str s, opD b] A B := ⟨⟨d, x, a, s, b⟩, rfl, h, q⟩
def sp_Deeds_name_of : VSp := Fsp (fun a : Bool × Dds × Cs => [ddsD a.1 a.2.1, .str a.2.2]) (fun _ => True) fun a => .str a.2.2
theorem mono_Deeds_name_of : Mono sp_Deeds_name_of := Fsp.mono
theorem c_Deeds_name_of {m : Bool} {d : Dds} {x : Cs} {A : D → List D → Prop} {B : Value → D → List D → Prop} (q : A (.str x) [ddsD m d, .str x]) : sp_Deeds_name_of [ddsD m d, .str x] A B := ⟨(m, d, x), rfl, trivial, q⟩
def sp_Deeds_worth_of : VSp := Fsp (fun a : Dds × Opd => [ddsD true a.1, opD a.2]) (fun _ => True) fun a => .int (worthM a.1.mem a.2)
theorem mono_Deeds_worth_of : Mono sp_Deeds_worth_of := Fsp.mono
theorem c_Deeds_worth_of {d : Dds} {a : Opd} {A : D → List D → Prop} {B : Value → D → List D → Prop} (q : A (.int (worthM d.mem a)) [ddsD true d, opD a]) : sp_Deeds_worth_of [ddsD true d, opD a] A B := ⟨(d, a), rfl, trivial, q⟩
def sp_Deeds_full : VSp := Fsp (fun a : Dds => [ddsD true a]) (fun _ => True) fun a => .bl (decide (a.most ≤ a.done.length))
theorem mono_Deeds_full : Mono sp_Deeds_full := Fsp.mono
theorem c_Deeds_full {d : Dds} {A : D → List D → Prop} {B : Value → D → List D → Prop} (q : A (.bl (decide (d.most ≤ d.done.length))) [ddsD true d]) : sp_Deeds_full [ddsD true d] A B := ⟨d, rfl, trivial, q⟩
def sp_Deeds_init : VSp := Fsp (fun a : Mem × Int => [.ins true 0 [] [], mmD false a.1, .int a.2]) (fun _ => True) (fun _ => .non) fun a => [ddsD true ⟨a.1, a.2, []⟩, mmD false a.1, .int a.2]
theorem mono_Deeds_init : Mono sp_Deeds_init := Fsp.mono
theorem c_Deeds_init {M : Mem} {most : Int} {A : D → List D → Prop} {B : Value → D → List D → Prop} (q : A .non [ddsD true ⟨M, most, []⟩, mmD false M, .int most]) : sp_Deeds_init [.ins true 0 [] [], mmD false M, .int most] A B := ⟨(M, most), rfl, trivial, q⟩
def sp_made : VSp := Osp (fun a : Cs × Int × Int => [.str a.1, .int a.2.1, .int a.2.2]) (fun a => Sm a.2.2) (fun a => (madeV a.1 a.2.1 a.2.2).map D.int) "ByNought"
theorem mono_made : Mono sp_made := Osp.mono
theorem c_made {s : Cs} {i j : Int} {A : D → List D → Prop} {B : Value → D → List D → Prop} (h : Sm j) (q : match madeV s i j with | some v => A (.int v) [.str s, .int i, .int j] | none => B (.type "ByNought") .non [.str s, .int i, .int j]) : sp_made [.str s, .int i, .int j] A B :=
  ⟨(s, i, j), rfl, h, by
    show match (madeV s i j).map D.int with
      | some r => A r [.str s, .int i, .int j]
      | none => B (.type "ByNought") .non [.str s, .int i, .int j]
    cases e : madeV s i j with
    | some v => rw [e] at q; exact q
    | none => rw [e] at q; exact q⟩
def sp_holds : VSp := Fsp (fun a : Cs × Int × Int => [.str a.1, .int a.2.1, .int a.2.2]) (fun _ => True) fun a => .bl (holdsV a.1 a.2.1 a.2.2)
theorem mono_holds : Mono sp_holds := Fsp.mono
theorem c_holds {s : Cs} {i j : Int} {A : D → List D → Prop} {B : Value → D → List D → Prop} : sp_holds [.str s, .int i, .int j] A B ↔ A (.bl (holdsV s i j)) [.str s, .int i, .int j] :=
  ⟨fun ⟨_, e, h, q⟩ => by cases e; exact q, fun q => ⟨(s, i, j), rfl, trivial, q⟩⟩
def sp_worth : VSp := Fsp (fun a : Opd × Mem => [opD a.1, mmD false a.2]) (fun _ => True) fun a => .int (worthM a.2 a.1)
theorem mono_worth : Mono sp_worth := Fsp.mono
theorem c_worth {a : Opd} {M : Mem} {A : D → List D → Prop} {B : Value → D → List D → Prop} (q : A (.int (worthM M a)) [opD a, mmD false M]) : sp_worth [opD a, mmD false M] A B := ⟨(a, M), rfl, trivial, q⟩
structure RunRA where
  n : Int
  B : List Fm
  d : Dds
def RunRA.args (a : RunRA) (d : Dds) : List D := [.tup [.str cRound, .int a.n, .lst false (fmsD a.B)], ddsD true d]
def sp_run_round (n : Nat) : VSp := fun ds Q E => ∃ a : RunRA, ds = a.args a.d ∧ (dpL a.B < n ∧ PreI a.d (lnsL a.B)) ∧ RsOut (runFm 4000 (.round a.n a.B) a.d) a.args Q E
theorem mono_run_round (n : Nat) : Mono (sp_run_round n) := fun ds A A' B B' hA hB ⟨a, e, p, q⟩ => ⟨a, e, p, q.mono hA hB⟩
theorem c_run_round {n : Nat} {m : Int} {F : List Fm} {d : Dds} {A : D → List D → Prop} {B : Value → D → List D → Prop} (h : dpL F < n ∧ PreI d (lnsL F))
    (q1 : ∀ d' g, runFm 4000 (.round m F) d = (d', some g) → A (gsD g) [.tup [.str cRound, .int m, .lst false (fmsD F)], ddsD true d'])
    (q2 : ∀ d', runFm 4000 (.round m F) d = (d', none) → B (.type "ByNought") .non [.tup [.str cRound, .int m, .lst false (fmsD F)], ddsD true d']) :
    sp_run_round n [.tup [.str cRound, .int m, .lst false (fmsD F)], ddsD true d] A B := ⟨⟨m, F, d⟩, rfl, h, RsOut.of q1 q2⟩
structure RunSA where
  f : Fm
  d : Dds
def RunSA.args (a : RunSA) (d : Dds) : List D := [fmD a.f, ddsD true d]
def sp_run_statement (n : Nat) : VSp := fun ds Q E => ∃ a : RunSA, ds = a.args a.d ∧ (dpF a.f ≤ n ∧ PreI a.d (lnsF a.f)) ∧ RsOut (runFm 4000 a.f a.d) a.args Q E
theorem mono_run_statement (n : Nat) : Mono (sp_run_statement n) := fun ds A A' B B' hA hB ⟨a, e, p, q⟩ => ⟨a, e, p, q.mono hA hB⟩
theorem c_run_statement {n : Nat} {f : Fm} {d : Dds} {A : D → List D → Prop} {B : Value → D → List D → Prop} (h : dpF f ≤ n ∧ PreI d (lnsF f))
    (q1 : ∀ d' g, runFm 4000 f d = (d', some g) → A (gsD g) [fmD f, ddsD true d'])
    (q2 : ∀ d', runFm 4000 f d = (d', none) → B (.type "ByNought") .non [fmD f, ddsD true d']) :
    sp_run_statement n [fmD f, ddsD true d] A B := ⟨⟨f, d⟩, rfl, h, RsOut.of q1 q2⟩
structure RunFA where
  F : List Fm
  d : Dds
def RunFA.args (a : RunFA) (d : Dds) : List D := [.lst false (fmsD a.F), ddsD true d]
def sp_run_list : Nat → VSp
  | 0 => fun _ _ _ => False
  | n + 1 => fun ds Q E => ∃ a : RunFA, ds = a.args a.d ∧ (dpL a.F ≤ n ∧ PreI a.d (lnsL a.F)) ∧ RsOut (runLs 4000 a.F a.d) a.args Q E
theorem mono_run_list : ∀ n, Mono (sp_run_list n)
  | 0 => fun _ _ _ _ _ _ _ h => h
  | _ + 1 => fun ds A A' B B' hA hB ⟨a, e, p, q⟩ => ⟨a, e, p, q.mono hA hB⟩
theorem c_run_list {n : Nat} {F : List Fm} {d : Dds} {A : D → List D → Prop} {B : Value → D → List D → Prop} (h : dpL F < n ∧ PreI d (lnsL F))
    (q1 : ∀ d' g, runLs 4000 F d = (d', some g) → A (gsD g) [.lst false (fmsD F), ddsD true d'])
    (q2 : ∀ d', runLs 4000 F d = (d', none) → B (.type "ByNought") .non [.lst false (fmsD F), ddsD true d']) :
    sp_run_list n [.lst false (fmsD F), ddsD true d] A B := by
  obtain ⟨m, rfl⟩ : ∃ m, n = m + 1 := ⟨n - 1, by omega⟩
  exact ⟨⟨F, d⟩, rfl, ⟨by have := h.1; show dpL F ≤ m; omega, h.2⟩, RsOut.of q1 q2⟩
def tellR (r : Rs) : Told := (r.1.done, (match r.2 with | none => cFault | some .on => cOn | _ => cEnd), r.1.mem)
structure RunMA where
  F : List Fm
  M : Mem
  most : Int
def RunMA.args (a : RunMA) : List D := [.lst false (fmsD a.F), mmD false a.M, .int a.most]
def sp_run_form : VSp := Fsp RunMA.args (fun a => dpL a.F ≤ 88 ∧ PreI ⟨a.M, a.most, []⟩ (lnsL a.F)) fun a => toldD (tellR (runLs 4000 a.F ⟨a.M, a.most, []⟩))
theorem mono_run_form : Mono sp_run_form := Fsp.mono
theorem c_run_form {F : List Fm} {M : Mem} {most : Int} {A : D → List D → Prop} {B : Value → D → List D → Prop} (h : dpL F ≤ 88 ∧ PreI ⟨M, most, []⟩ (lnsL F)) (q : A (toldD (tellR (runLs 4000 F ⟨M, most, []⟩))) [.lst false (fmsD F), mmD false M, .int most]) : sp_run_form [.lst false (fmsD F), mmD false M, .int most] A B := ⟨⟨F, M, most⟩, rfl, h, q⟩
def sp_Lraw : VSp := Fsp (fun a : List Int × Int => [scriptD a.1, .int a.2]) (fun a => 0 ≤ a.2) fun a => .int (rawI a.1 a.2)
theorem mono_Lraw : Mono sp_Lraw := Fsp.mono
theorem c_Lraw {ns : List Int} {k : Int} {A : D → List D → Prop} {B : Value → D → List D → Prop} (h : 0 ≤ k) (q : A (.int (rawI ns k)) [scriptD ns, .int k]) : sp_Lraw [scriptD ns, .int k] A B := ⟨(ns, k), rfl, h, q⟩
def sp_Lmix : VSp := Fsp (fun a : List Int × Int => [scriptD a.1, .int a.2]) (fun a => a.1.length ≤ 63 ∧ 0 ≤ a.2 ∧ a.2 < 1000000) fun a => .int (mixI a.1 a.2)
theorem mono_Lmix : Mono sp_Lmix := Fsp.mono
theorem c_Lmix {ns : List Int} {k : Int} {A : D → List D → Prop} {B : Value → D → List D → Prop} (h : ns.length ≤ 63 ∧ 0 ≤ k ∧ k < 1000000) (q : A (.int (mixI ns k)) [scriptD ns, .int k]) : sp_Lmix [scriptD ns, .int k] A B := ⟨(ns, k), rfl, h, q⟩
/-- the same plain data, twice -/
def sp_Lalike : Nat → VSp
  | 0 => fun _ _ _ => False
  | n + 1 => Fsp (fun a : D => [a, a]) (fun a => plN n a = true) fun _ => .bl true
theorem mono_Lalike : ∀ n, Mono (sp_Lalike n)
  | 0 => fun _ _ _ _ _ _ _ h => h
  | _ + 1 => Fsp.mono
theorem c_Lalike {n : Nat} {x y : D} {A : D → List D → Prop} {B : Value → D → List D → Prop} (e : x = y) (h : plN n x = true) (q : A (.bl true) [x, x]) : sp_Lalike (n + 1) [x, y] A B := by
  subst e
  exact ⟨x, rfl, h, q⟩
def sp_Lsame_memory : VSp := Fsp (fun M : Mem => [mmD false M, mmD false M]) (fun M => M.length < 1000000) fun _ => .bl true
theorem mono_Lsame_memory : Mono sp_Lsame_memory := Fsp.mono
theorem c_Lsame_memory {M M' : Mem} {A : D → List D → Prop} {B : Value → D → List D → Prop} (e : M = M') (h : M.length < 1000000) (q : A (.bl true) [mmD false M, mmD false M']) : sp_Lsame_memory [mmD false M, mmD false M'] A B := by
  subst e
  exact ⟨M, rfl, h, q⟩
def cntB (way : Int) (x : Cs) (lim : Opd) (n : Int) : List Fm :=
  if way = 0 then [.sum x (.inr x) [43] (.inl 1), .choice (.inr x) [60] lim [.again n] [] true, .leave n]
  else if way = 1 then [.sum x (.inr x) [43] (.inl 1), .choice (.inr x) [60] lim [] [.leave n] true]
  else [.part (n + 1) [.sum x (.inr x) [43] (.inl 1), .choice (.inr x) [60] lim [.leave (n + 1)] [] true, .leave n]]
def cntF (way : Int) (x : Cs) (lim : Opd) (n : Int) : List Fm := [.round n (cntB way x lim n)]
structure CnA where
  way : Int
  x : Cs
  lim : Opd
  n : Int
def sp_Lcounting : VSp := Fsp (fun a : CnA => [.int a.way, .str a.x, opD a.lim, .int a.n]) (fun _ => True) fun a => .lst true (fmsD (cntF a.way a.x a.lim a.n))
theorem mono_Lcounting : Mono sp_Lcounting := Fsp.mono
theorem c_Lcounting {way : Int} {x : Cs} {lim : Opd} {n : Int} {A : D → List D → Prop} {B : Value → D → List D → Prop} (q : A (.lst true (fmsD (cntF way x lim n))) [.int way, .str x, opD lim, .int n]) : sp_Lcounting [.int way, .str x, opD lim, .int n] A B := ⟨⟨way, x, lim, n⟩, rfl, trivial, q⟩
/-- rounds (true) and parts, one in the other -/
def spF : Int → List Bool → List Fm → List Fm
  | _, [], inn => inn
  | k, w :: ws, inn => [if w = true then .round k (spF (k + 1) ws inn) else .part k (spF (k + 1) ws inn)]
/-- what stands amid -/
def SpIn (ws : List Bool) (inn : List Fm) : Prop := inn = [] ∨ (∃ r : Nat, ws[r]? = some true ∧ inn = [.again (100 + (r : Int))]) ∨ ∃ j : Nat, j + 1 < ws.length ∧ inn = [.leave (101 + (j : Int))]
def sp_Lspin : VSp := Psp (fun a : Int × Nat => [.int a.1, .int (a.2 : Int)]) (fun a => a.2 < 20) fun a r => ∃ ws inn, r = .lst false (fmsD (spF 100 (true :: ws) inn)) ∧ ws.length = a.2 ∧ SpIn (true :: ws) inn
theorem mono_Lspin : Mono sp_Lspin := Psp.mono
theorem c_Lspin {z : Int} {m : Nat} {A : D → List D → Prop} {B : Value → D → List D → Prop} (h : m < 20) (q : ∀ ws inn, ws.length = m → SpIn (true :: ws) inn → A (.lst false (fmsD (spF 100 (true :: ws) inn))) [.int z, .int (m : Int)]) : sp_Lspin [.int z, .int (m : Int)] A B := ⟨(z, m), rfl, h, fun _ ⟨ws, inn, e, h1, h2⟩ => by cases e; exact q ws inn h1 h2⟩
def gNone9 : Cs := [110, 111, 110, 101, 57]
def gNought : Cs := [110, 111, 117, 103, 104, 116]
def lastF (way : Int) (x : Cs) (S : List Fm) : List Fm :=
  if way = 0 then [] else if way = 1 then [.fin, .sum x (.inl 3) [43] (.inl 4)] else if way = 2 then [.sum x (.inr x) [47] (.inl 0)] else if way = 3 then [.sum gNone9 (.inl 7) cRest (.inr gNought)] else S
structure LaA where
  way : Int
  x : Cs
  S : List Fm
def sp_Llast : VSp := Psp (fun a : LaA => [.int a.way, .str a.x, .lst false (fmsD a.S)]) (fun _ => True) fun a r => ∃ m, r = .lst m (fmsD (lastF a.way a.x a.S))
theorem mono_Llast : Mono sp_Llast := Psp.mono
theorem c_Llast {way : Int} {x : Cs} {S : List Fm} {A : D → List D → Prop} {B : Value → D → List D → Prop} (q : ∀ m, A (.lst m (fmsD (lastF way x S))) [.int way, .str x, .lst false (fmsD S)]) : sp_Llast [.int way, .str x, .lst false (fmsD S)] A B := ⟨⟨way, x, S⟩, rfl, trivial, fun _ ⟨m, e⟩ => by cases e; exact q m⟩
/-- a form within parts and rounds that are left -/
inductive Wi (F : List Fm) : Nat → List Fm → Prop
  | zero : Wi F 0 F
  | part {k : Nat} {G : List Fm} : Wi F k G → Wi F (k + 1) [.part (1000 + (k : Int)) G]
  | round {k : Nat} {G : List Fm} : Wi F k G → Wi F (k + 1) [.round (1000 + (k : Int)) (G ++ [.leave (1000 + (k : Int))])]
structure WiA where
  F : List Fm
  z : Int
  m : Nat
def sp_Lwithin : VSp := Psp (fun a : WiA => [.lst false (fmsD a.F), .int a.z, .int (a.m : Int)]) (fun a => a.m < 100 ∧ a.F.length < 1000) fun a r => ∃ G, r = .lst false (fmsD G) ∧ Wi a.F a.m G
theorem mono_Lwithin : Mono sp_Lwithin := Psp.mono
theorem c_Lwithin {F : List Fm} {z : Int} {m : Nat} {A : D → List D → Prop} {B : Value → D → List D → Prop} (h : m < 100 ∧ F.length < 1000) (q : ∀ G, Wi F m G → A (.lst false (fmsD G)) [.lst false (fmsD F), .int z, .int (m : Int)]) : sp_Lwithin [.lst false (fmsD F), .int z, .int (m : Int)] A B := ⟨⟨F, z, m⟩, rfl, h, fun _ ⟨G, e, w⟩ => by cases e; exact q G w⟩
def dedK (x : Cs) (a : Int) (n k : Nat) : Dd := if k % 2 = 0 then .sum x (a + (k / 2 : Nat)) [43] 1 (a + (k / 2 : Nat) + 1) else .test (a + (k / 2 : Nat) + 1) [60] (a + (n : Nat)) (decide (a + (k / 2 : Nat) + 1 < a + (n : Nat)))
def dedsF (x : Cs) (a : Int) (n m : Nat) : List Dd := (List.range (min (2 * n) m)).map (dedK x a n)
def sp_Ldeeds : VSp := Fsp (fun a : Cs × Int × Nat × Nat => [.str a.1, .int a.2.1, .int (a.2.2.1 : Int), .int (a.2.2.2 : Int)]) (fun a => a.2.2.1 < 10000 ∧ a.2.2.2 < 10000) fun a => .lst true ((dedsF a.1 a.2.1 a.2.2.1 a.2.2.2).map dedD)
theorem mono_Ldeeds : Mono sp_Ldeeds := Fsp.mono
theorem c_Ldeeds {x : Cs} {a : Int} {n m : Nat} {A : D → List D → Prop} {B : Value → D → List D → Prop} (h : n < 10000 ∧ m < 10000) (q : A (.lst true ((dedsF x a n m).map dedD)) [.str x, .int a, .int (n : Int), .int (m : Int)]) : sp_Ldeeds [.str x, .int a, .int (n : Int), .int (m : Int)] A B := ⟨(x, a, n, m), rfl, h, q⟩
def wordG (way : Int) (n m : Nat) : Cs := if 3 < way ∨ m < 2 * n then cOn else if way < 2 then cEnd else if 2 * n < m then cFault else cOn
def sp_Lword : VSp := Fsp (fun a : Int × Nat × Nat => [.int a.1, .int (a.2.1 : Int), .int (a.2.2 : Int)]) (fun a => a.2.1 < 10000) fun a => .str (wordG a.1 a.2.1 a.2.2)
theorem mono_Lword : Mono sp_Lword := Fsp.mono
theorem c_Lword {way : Int} {n m : Nat} {A : D → List D → Prop} {B : Value → D → List D → Prop} (h : n < 10000) (q : A (.str (wordG way n m)) [.int way, .int (n : Int), .int (m : Int)]) : sp_Lword [.int way, .int (n : Int), .int (m : Int)] A B := ⟨(way, n, m), rfl, h, q⟩
def sp_law : VSp := Fsp (fun a : List Int => [scriptD a]) (fun a => a.length ≤ 63 ∧ ∀ z ∈ a, Builtin.Int.intBits z ≤ 1048576) fun _ => .bl true
theorem mono_law : Mono sp_law := Fsp.mono
def t_Deeds_told : VTS := vRet (vTup (vaCons (vListF 0 0 [100, 111, 110, 101]) (vaCons (vVar 1) (vaCons (vDictF 0 0 [109, 101, 109, 111, 114, 121]) (vaNil)))))
def t_Deeds_test_of : VTS := vSeq (vAsg 4 (vMeth 0 0 [119, 111, 114, 116, 104, 95, 111, 102] sp_Deeds_worth_of [none] (vaCons (vVar 1) (vaNil)))) (vSeq (vAsg 5 (vMeth 0 0 [119, 111, 114, 116, 104, 95, 111, 102] sp_Deeds_worth_of [none] (vaCons (vVar 3) (vaNil)))) (vSeq (vAsg 6 (vCall (sp_holds) [none, none, none] (vaCons (vVar 2) (vaCons (vVar 4) (vaCons (vVar 5) (vaNil)))))) (vSeq (vDrop (vMut muAppend 0 (vpFd 0 0 [100, 111, 110, 101] (vpName 0)) (vaCons (vTup (vaCons (vC (.str [116, 101, 115, 116])) (vaCons (vVar 4) (vaCons (vVar 2) (vaCons (vVar 5) (vaCons (vVar 6) (vaNil))))))) (vaNil)))) (vRet (vVar 6)))))
def t_Deeds_sum_of : VTS := vSeq (vAsg 5 (vMeth 0 0 [119, 111, 114, 116, 104, 95, 111, 102] sp_Deeds_worth_of [none] (vaCons (vVar 2) (vaNil)))) (vSeq (vAsg 6 (vMeth 0 0 [119, 111, 114, 116, 104, 95, 111, 102] sp_Deeds_worth_of [none] (vaCons (vVar 4) (vaNil)))) (vSeq (vAsg 7 (vCall (sp_made) [none, none, none] (vaCons (vVar 3) (vaCons (vVar 5) (vaCons (vVar 6) (vaNil)))))) (vSeq (vDrop (vMut muAppend 0 (vpFd 0 0 [100, 111, 110, 101] (vpName 0)) (vaCons (vTup (vaCons (vC (.str [115, 117, 109])) (vaCons (vView (wMet 0 [110, 97, 109, 101, 95, 111, 102] sp_Deeds_name_of (wName 0) (wCons (wName 1) (wNil)))) (vaCons (vVar 5) (vaCons (vVar 3) (vaCons (vVar 6) (vaCons (vVar 7) (vaNil)))))))) (vaNil)))) (vSet 0 (vVar 7) (vpFd 0 0 [109, 101, 109, 111, 114, 121] (vpName 0)) (vVar 1)))))
def t_Deeds_name_of : VTS := vRet (vVar 1)
def t_Deeds_worth_of : VTS := vRet (vView (wCall (sp_worth) (wCons (wName 1) (wCons (wFld 0 [109, 101, 109, 111, 114, 121] (wName 0)) (wNil)))))
def t_Deeds_full : VTS := vRet (vView (wOp oGe (w2 (wOp sLen (wCons (wFld 0 [100, 111, 110, 101] (wName 0)) (wNil))) (wFld 0 [109, 111, 115, 116] (wName 0)))))
def t_Deeds_init : VTS := vSeq (vFld 0 0 [109, 101, 109, 111, 114, 121] (vOp sDict [none] (vaCons (vVar 1) (vaNil)))) (vSeq (vFld 0 0 [109, 111, 115, 116] (vVar 2)) (vFld 0 0 [100, 111, 110, 101] (vLst (vaNil))))
def t_made : VTS := vSeq (vIfS (vB (vOp sEq [none, none] (va2 (vVar 0) (vC (.str [43]))))) (vRet (vOp sAdd [none, none] (va2 (vVar 1) (vVar 2)))) (vSkip)) (vSeq (vIfS (vB (vOp sEq [none, none] (va2 (vVar 0) (vC (.str [45]))))) (vRet (vOp oSub [none, none] (va2 (vVar 1) (vVar 2)))) (vSkip)) (vSeq (vIfS (vB (vOp sEq [none, none] (va2 (vVar 0) (vC (.str [38]))))) (vRet (vOp oAnd [none, none] (va2 (vVar 1) (vVar 2)))) (vSkip)) (vSeq (vIfS (vB (vOp sEq [none, none] (va2 (vVar 0) (vC (.str [94]))))) (vRet (vOp oXor [none, none] (va2 (vVar 1) (vVar 2)))) (vSkip)) (vSeq (vIfS (vB (vOp sEq [none, none] (va2 (vVar 2) (vC (.int 0))))) (vRaise "ByNought") (vSkip)) (vSeq (vAsgT (vOp sDivmod [none, none] (vaCons (vVar 1) (vaCons (vVar 2) (vaNil)))) (vNames [3, 4])) (vSeq (vIfS (vB (vOp sEq [none, none] (va2 (vVar 0) (vC (.str [47]))))) (vRet (vVar 3)) (vSkip)) (vRet (vVar 4))))))))
def t_holds : VTS := vSeq (vIfS (vB (vOp sEq [none, none] (va2 (vVar 0) (vC (.str [60]))))) (vRet (vOp oLt [none, none] (va2 (vVar 1) (vVar 2)))) (vSkip)) (vRet (vOp sEq [none, none] (va2 (vVar 1) (vVar 2))))
def t_worth : VTS := vSeq (vIfS (vB (vOp sIsi [none, none] (vaCons (vVar 0) (vaCons (vC (.ty "str")) (vaNil))))) (vRet (vDGet2 (none) (vVar 1) (vVar 0) (vC (.int 0)))) (vSkip)) (vRet (vVar 0))
def lb_run_round0 (n : Nat) : VTS := vSeq (vAsg 2 (vView (wOp sLen (wCons (wFld 0 [100, 111, 110, 101] (wName 1)) (wNil))))) (vSeq (vAsg 3 (vCall ((sp_run_list n)) [none, some 1] (vaCons (vOp sIx [none, none] (va2 (vVar 0) (vC (.int 2)))) (vaLate 1 (vaNil))))) (vSeq (vIfS (vB (vOp sEq [none, none] (va2 (vVar 3) (vTup (vaCons (vC (.str [108, 101, 97, 118, 101])) (vaCons (vOp sIx [none, none] (va2 (vVar 0) (vC (.int 1)))) (vaNil))))))) (vRet (vC .non)) (vSkip)) (vSeq (vIfS (vAnd (vB (vOp sNotN [none, none] (va2 (vVar 3) (vC .non)))) (vB (vOp sNe [none, none] (va2 (vVar 3) (vTup (vaCons (vC (.str [97, 103, 97, 105, 110])) (vaCons (vOp sIx [none, none] (va2 (vVar 0) (vC (.int 1)))) (vaNil)))))))) (vRet (vVar 3)) (vSkip)) (vIfS (vViewT (wOp sEq (w2 (wOp sLen (wCons (wFld 0 [100, 111, 110, 101] (wName 1)) (wNil))) (wName 2)))) (vRet (vTup (vaCons (vC (.str [111, 110])) (vaNil)))) (vSkip)))))
def t_run_round (n : Nat) : VTS := vWhile (vB (vC (.bl true))) ((lb_run_round0 n))
def t_run_statement (n : Nat) : VTS := vSeq (vIfS (vB (vOp sEq [none, none] (va2 (vOp sIx [none, none] (va2 (vVar 0) (vC (.int 0)))) (vC (.str [114, 111, 117, 110, 100]))))) (vRet (vCall ((sp_run_round n)) [none, some 1] (vaCons (vVar 0) (vaLate 1 (vaNil))))) (vSkip)) (vSeq (vIfS (vB (vOp sEq [none, none] (va2 (vOp sIx [none, none] (va2 (vVar 0) (vC (.int 0)))) (vC (.str [112, 97, 114, 116]))))) (vSeq (vAsg 2 (vCall ((sp_run_list n)) [none, some 1] (vaCons (vOp sIx [none, none] (va2 (vVar 0) (vC (.int 2)))) (vaLate 1 (vaNil))))) (vSeq (vIfS (vB (vOp sEq [none, none] (va2 (vVar 2) (vTup (vaCons (vC (.str [108, 101, 97, 118, 101])) (vaCons (vOp sIx [none, none] (va2 (vVar 0) (vC (.int 1)))) (vaNil))))))) (vRet (vC .non)) (vSkip)) (vRet (vVar 2)))) (vSkip)) (vSeq (vIfS (vAnd (vB (vOp sNe [none, none] (va2 (vOp sIx [none, none] (va2 (vVar 0) (vC (.int 0)))) (vC (.str [115, 117, 109]))))) (vB (vOp sNe [none, none] (va2 (vOp sIx [none, none] (va2 (vVar 0) (vC (.int 0)))) (vC (.str [99, 104, 111, 105, 99, 101])))))) (vRet (vVar 0)) (vSkip)) (vSeq (vIfS (vB (vMeth 1 0 [102, 117, 108, 108] sp_Deeds_full [] (vaNil))) (vRet (vTup (vaCons (vC (.str [111, 110])) (vaNil)))) (vSkip)) (vSeq (vIfS (vB (vOp sEq [none, none] (va2 (vOp sIx [none, none] (va2 (vVar 0) (vC (.int 0)))) (vC (.str [115, 117, 109]))))) (vSeq (vDrop (vMeth 1 0 [115, 117, 109, 95, 111, 102] sp_Deeds_sum_of [none, none, none, none] (vaCons (vOp sIx [none, none] (va2 (vVar 0) (vC (.int 1)))) (vaCons (vOp sIx [none, none] (va2 (vVar 0) (vC (.int 2)))) (vaCons (vOp sIx [none, none] (va2 (vVar 0) (vC (.int 3)))) (vaCons (vOp sIx [none, none] (va2 (vVar 0) (vC (.int 4)))) (vaNil))))))) (vRet (vC .non))) (vSkip)) (vSeq (vIfS (vB (vMeth 1 0 [116, 101, 115, 116, 95, 111, 102] sp_Deeds_test_of [none, none, none] (vaCons (vOp sIx [none, none] (va2 (vVar 0) (vC (.int 1)))) (vaCons (vOp sIx [none, none] (va2 (vVar 0) (vC (.int 2)))) (vaCons (vOp sIx [none, none] (va2 (vVar 0) (vC (.int 3)))) (vaNil)))))) (vRet (vCall ((sp_run_list n)) [none, some 1] (vaCons (vOp sIx [none, none] (va2 (vVar 0) (vC (.int 4)))) (vaLate 1 (vaNil))))) (vSkip)) (vRet (vCall ((sp_run_list n)) [none, some 1] (vaCons (vOp sIx [none, none] (va2 (vVar 0) (vC (.int 5)))) (vaLate 1 (vaNil))))))))))
def lb_run_list0 (n : Nat) : VTS := vSeq (vAsg 3 (vCall ((sp_run_statement n)) [none, some 1] (vaCons (vVar 2) (vaLate 1 (vaNil))))) (vIfS (vB (vOp sNotN [none, none] (va2 (vVar 3) (vC .non)))) (vRet (vVar 3)) (vSkip))
def t_run_list (n : Nat) : VTS := vSeq (vFor (viLst (vVar 0)) (vName 2) ((lb_run_list0 n))) (vRet (vC .non))
def ly_run_form0 : VTS := vAsg 4 (vCall ((sp_run_list 90)) [none, some 3] (vaCons (vVar 0) (vaLate 3 (vaNil))))
def lx_run_form0 : VTS := vRet (vMeth 3 0 [116, 111, 108, 100] sp_Deeds_told [none] (vaCons (vC (.str [102, 97, 117, 108, 116])) (vaNil)))
def lz_run_form0 : VTS := vSeq (vIfS (vB (vOp sEq [none, none] (va2 (vVar 4) (vTup (vaCons (vC (.str [111, 110])) (vaNil)))))) (vRet (vMeth 3 0 [116, 111, 108, 100] sp_Deeds_told [none] (vaCons (vC (.str [111, 110])) (vaNil)))) (vSkip)) (vRet (vMeth 3 0 [116, 111, 108, 100] sp_Deeds_told [none] (vaCons (vC (.str [101, 110, 100])) (vaNil))))
def t_run_form : VTS := vSeq (vAsg 3 (vNew 0 sp_Deeds_init [none, none] (vaCons (vVar 1) (vaCons (vVar 2) (vaNil))))) (vTryE xt_ByNought ly_run_form0 lx_run_form0 lz_run_form0)
def t_Lraw : VTS := vSeq (vIfS (vB (vOp sEq [none, none] (va2 (vOp sLen [none] (vaCons (vVar 0) (vaNil))) (vC (.int 0))))) (vRet (vVar 1)) (vSkip)) (vRet (vOp sIx [none, none] (va2 (vVar 0) (vOp oMod [none, none] (va2 (vVar 1) (vOp sLen [none] (vaCons (vVar 0) (vaNil))))))))
def t_Lmix : VTS := vSeq (vIfS (vB (vOp sEq [none, none] (va2 (vOp sLen [none] (vaCons (vVar 0) (vaNil))) (vC (.int 0))))) (vRet (vOp oMod [none, none] (va2 (vOp sMul [none, none] (va2 (vOp sAdd [none, none] (va2 (vOp sMul [none, none] (va2 (vVar 1) (vVar 1))) (vC (.int 3)))) (vC (.int 48271)))) (vC (.int 2147483647))))) (vSkip)) (vSeq (vAsg 2 (vOp oDiv [none, none] (va2 (vVar 1) (vOp sLen [none] (vaCons (vVar 0) (vaNil)))))) (vRet (vOp oMod [none, none] (va2 (vOp sMul [none, none] (va2 (vOp sAdd [none, none] (va2 (vOp oMod [none, none] (va2 (vCall (sp_Lraw) [none, none] (vaCons (vVar 0) (vaCons (vVar 1) (vaNil)))) (vC (.int 2147483629)))) (vC (.int 2)))) (vOp sAdd [none, none] (va2 (vC (.int 48271)) (vOp sMul [none, none] (va2 (vOp sMul [none, none] (va2 (vC (.int 7)) (vVar 2))) (vVar 2))))))) (vC (.int 2147483647))))))
def lb_Lalike0 (n : Nat) : VTS := vIfS (vNot (vB (vCall ((sp_Lalike n)) [none, none] (vaCons (vVar 2) (vaCons (vVar 3) (vaNil)))))) (vRet (vC (.bl false))) (vSkip)
def t_Lalike (n : Nat) : VTS := vSeq (vIfS (vB (vOp sIsi [none, none] (vaCons (vVar 1) (vaCons (vC (.ty "bool")) (vaNil))))) (vRet (vAndV (vOp sIsi [none, none] (vaCons (vVar 0) (vaCons (vC (.ty "bool")) (vaNil)))) (vOp sEq [none, none] (va2 (vVar 0) (vVar 1))))) (vSkip)) (vSeq (vIfS (vB (vOp sIsi [none, none] (vaCons (vVar 1) (vaCons (vC (.ty "int")) (vaNil))))) (vRet (vAndV (vOp sIsi [none, none] (vaCons (vVar 0) (vaCons (vC (.ty "int")) (vaNil)))) (vAndV (vNotV (vOp sIsi [none, none] (vaCons (vVar 0) (vaCons (vC (.ty "bool")) (vaNil))))) (vOp sEq [none, none] (va2 (vVar 0) (vVar 1)))))) (vSkip)) (vSeq (vIfS (vB (vOp sIsi [none, none] (vaCons (vVar 1) (vaCons (vC (.ty "str")) (vaNil))))) (vRet (vAndV (vOp sIsi [none, none] (vaCons (vVar 0) (vaCons (vC (.ty "str")) (vaNil)))) (vOp sEq [none, none] (va2 (vVar 0) (vVar 1))))) (vSkip)) (vSeq (vIfS (vAnd (vB (vOp sIsi [none, none] (vaCons (vVar 1) (vaCons (vC (.ty "list")) (vaNil))))) (vNot (vB (vOp sIsi [none, none] (vaCons (vVar 0) (vaCons (vC (.ty "list")) (vaNil))))))) (vRet (vC (.bl false))) (vSkip)) (vSeq (vIfS (vAnd (vB (vOp sIsi [none, none] (vaCons (vVar 1) (vaCons (vC (.ty "tuple")) (vaNil))))) (vNot (vB (vOp sIsi [none, none] (vaCons (vVar 0) (vaCons (vC (.ty "tuple")) (vaNil))))))) (vRet (vC (.bl false))) (vSkip)) (vSeq (vIfS (vB (vOp sNe [none, none] (va2 (vOp sLen [none] (vaCons (vVar 0) (vaNil))) (vOp sLen [none] (vaCons (vVar 1) (vaNil)))))) (vRet (vC (.bl false))) (vSkip)) (vSeq (vFor (viZipA (vaCons (vVar 0) (vaCons (vVar 1) (vaNil)))) (vNames [2, 3]) ((lb_Lalike0 n))) (vRet (vC (.bl true)))))))))
def lb_Lsame_memory0 : VTS := vIfS (vOr (vB (vOp (sIn true) [none, none] (va2 (vVar 2) (vVar 0)))) (vNot (vB (vCall ((sp_Lalike 8)) [none, none] (vaCons (vOp sIx [none, none] (va2 (vVar 0) (vVar 2))) (vaCons (vOp sIx [none, none] (va2 (vVar 1) (vVar 2))) (vaNil))))))) (vRet (vC (.bl false))) (vSkip)
def t_Lsame_memory : VTS := vSeq (vIfS (vOr (vNot (vB (vOp sIsi [none, none] (vaCons (vVar 0) (vaCons (vC (.ty "dict")) (vaNil)))))) (vB (vOp sNe [none, none] (va2 (vOp sLen [none] (vaCons (vVar 0) (vaNil))) (vOp sLen [none] (vaCons (vVar 1) (vaNil))))))) (vRet (vC (.bl false))) (vSkip)) (vSeq (vForKeys 1 (vName 2) (lb_Lsame_memory0)) (vRet (vC (.bl true))))
def t_Lcounting : VTS := vSeq (vAsg 4 (vTup (vaCons (vC (.str [115, 117, 109])) (vaCons (vVar 1) (vaCons (vVar 1) (vaCons (vC (.str [43])) (vaCons (vC (.int 1)) (vaNil)))))))) (vSeq (vIfS (vB (vOp sEq [none, none] (va2 (vVar 0) (vC (.int 0))))) (vSeq (vAsg 5 (vTup (vaCons (vC (.str [99, 104, 111, 105, 99, 101])) (vaCons (vVar 1) (vaCons (vC (.str [60])) (vaCons (vVar 2) (vaCons (vStill (vLst (vaCons (vTup (vaCons (vC (.str [97, 103, 97, 105, 110])) (vaCons (vVar 3) (vaNil)))) (vaNil)))) (vaCons (vStill (vLst (vaNil))) (vaNil))))))))) (vRet (vLst (vaCons (vTup (vaCons (vC (.str [114, 111, 117, 110, 100])) (vaCons (vVar 3) (vaCons (vStill (vLst (vaCons (vVar 4) (vaCons (vVar 5) (vaCons (vTup (vaCons (vC (.str [108, 101, 97, 118, 101])) (vaCons (vVar 3) (vaNil)))) (vaNil)))))) (vaNil))))) (vaNil))))) (vSkip)) (vSeq (vIfS (vB (vOp sEq [none, none] (va2 (vVar 0) (vC (.int 1))))) (vSeq (vAsg 5 (vTup (vaCons (vC (.str [99, 104, 111, 105, 99, 101])) (vaCons (vVar 1) (vaCons (vC (.str [60])) (vaCons (vVar 2) (vaCons (vStill (vLst (vaNil))) (vaCons (vStill (vLst (vaCons (vTup (vaCons (vC (.str [108, 101, 97, 118, 101])) (vaCons (vVar 3) (vaNil)))) (vaNil)))) (vaNil))))))))) (vRet (vLst (vaCons (vTup (vaCons (vC (.str [114, 111, 117, 110, 100])) (vaCons (vVar 3) (vaCons (vStill (vLst (vaCons (vVar 4) (vaCons (vVar 5) (vaNil))))) (vaNil))))) (vaNil))))) (vSkip)) (vSeq (vAsg 5 (vTup (vaCons (vC (.str [99, 104, 111, 105, 99, 101])) (vaCons (vVar 1) (vaCons (vC (.str [60])) (vaCons (vVar 2) (vaCons (vStill (vLst (vaCons (vTup (vaCons (vC (.str [108, 101, 97, 118, 101])) (vaCons (vOp sAdd [none, none] (va2 (vVar 3) (vC (.int 1)))) (vaNil)))) (vaNil)))) (vaCons (vStill (vLst (vaNil))) (vaNil))))))))) (vRet (vLst (vaCons (vTup (vaCons (vC (.str [114, 111, 117, 110, 100])) (vaCons (vVar 3) (vaCons (vStill (vLst (vaCons (vTup (vaCons (vC (.str [112, 97, 114, 116])) (vaCons (vOp sAdd [none, none] (va2 (vVar 3) (vC (.int 1)))) (vaCons (vStill (vLst (vaCons (vVar 4) (vaCons (vVar 5) (vaCons (vTup (vaCons (vC (.str [108, 101, 97, 118, 101])) (vaCons (vVar 3) (vaNil)))) (vaNil)))))) (vaNil))))) (vaNil)))) (vaNil))))) (vaNil)))))))
def le_Lspin0 : VTE := vOp sIx [none, none] (va2 (vLst (vaCons (vC (.str [114, 111, 117, 110, 100])) (vaCons (vC (.str [112, 97, 114, 116])) (vaNil)))) (vOp oMod [none, none] (va2 (vOp oDiv [none, none] (va2 (vVar 0) (vOp sAdd [none, none] (va2 (vC (.int 1)) (vOp sMul [none, none] (va2 (vVar 3) (vVar 3))))))) (vC (.int 2)))))
def le_Lspin1 : VTE := vVar 3
def lt_Lspin1 : VTT := vB (vOp sEq [none, none] (va2 (vOp sIx [none, none] (va2 (vVar 2) (vVar 3))) (vC (.str [114, 111, 117, 110, 100]))))
def lb_Lspin0 : VTS := vAsg 5 (vStill (vLst (vaCons (vTup (vaCons (vOp sIx [none, none] (va2 (vVar 2) (vVar 3))) (vaCons (vOp sAdd [none, none] (va2 (vC (.int 100)) (vVar 3))) (vaCons (vVar 5) (vaNil))))) (vaNil))))
def t_Lspin : VTS := vSeq (vAsg 2 (vStill (vOp sAdd [none, none] (va2 (vLst (vaCons (vC (.str [114, 111, 117, 110, 100])) (vaNil))) (vLc [3] (viR1 (vaCons (vVar 1) (vaNil))) (vName 3) (vYes) (le_Lspin0)))))) (vSeq (vAsg 4 (vStill (vLc [3] (viR1 (vaCons (vOp sLen [none] (vaCons (vVar 2) (vaNil))) (vaNil))) (vName 3) (lt_Lspin1) (le_Lspin1)))) (vSeq (vAsg 5 (vStill (vLst (vaNil)))) (vSeq (vIfS (vB (vOp sEq [none, none] (va2 (vOp oMod [none, none] (va2 (vVar 0) (vC (.int 3)))) (vC (.int 1))))) (vAsg 5 (vStill (vLst (vaCons (vTup (vaCons (vC (.str [97, 103, 97, 105, 110])) (vaCons (vOp sAdd [none, none] (va2 (vC (.int 100)) (vOp sIx [none, none] (va2 (vVar 4) (vOp oMod [none, none] (va2 (vOp oDiv [none, none] (va2 (vVar 0) (vC (.int 3)))) (vOp sLen [none] (vaCons (vVar 4) (vaNil))))))))) (vaNil)))) (vaNil))))) (vSkip)) (vSeq (vIfS (vAnd (vB (vOp sEq [none, none] (va2 (vOp oMod [none, none] (va2 (vVar 0) (vC (.int 3)))) (vC (.int 2))))) (vB (vOp oGt [none, none] (va2 (vVar 1) (vC (.int 0)))))) (vAsg 5 (vStill (vLst (vaCons (vTup (vaCons (vC (.str [108, 101, 97, 118, 101])) (vaCons (vOp sAdd [none, none] (va2 (vC (.int 101)) (vOp oMod [none, none] (va2 (vOp oDiv [none, none] (va2 (vVar 0) (vC (.int 3)))) (vVar 1))))) (vaNil)))) (vaNil))))) (vSkip)) (vSeq (vFor (viRd (vaCons (vVar 1) (vaCons (vOp oNeg [none] (va1 (vC (.int 1)))) (vaCons (vOp oNeg [none] (va1 (vC (.int 1)))) (vaNil))))) (vName 3) (lb_Lspin0)) (vRet (vVar 5)))))))
def t_Llast : VTS := vSeq (vIfS (vB (vOp sEq [none, none] (va2 (vVar 0) (vC (.int 0))))) (vRet (vLst (vaNil))) (vSkip)) (vSeq (vIfS (vB (vOp sEq [none, none] (va2 (vVar 0) (vC (.int 1))))) (vRet (vLst (vaCons (vTup (vaCons (vC (.str [101, 110, 100])) (vaNil))) (vaCons (vTup (vaCons (vC (.str [115, 117, 109])) (vaCons (vVar 1) (vaCons (vC (.int 3)) (vaCons (vC (.str [43])) (vaCons (vC (.int 4)) (vaNil))))))) (vaNil))))) (vSkip)) (vSeq (vIfS (vB (vOp sEq [none, none] (va2 (vVar 0) (vC (.int 2))))) (vRet (vLst (vaCons (vTup (vaCons (vC (.str [115, 117, 109])) (vaCons (vVar 1) (vaCons (vVar 1) (vaCons (vC (.str [47])) (vaCons (vC (.int 0)) (vaNil))))))) (vaNil)))) (vSkip)) (vSeq (vIfS (vB (vOp sEq [none, none] (va2 (vVar 0) (vC (.int 3))))) (vRet (vLst (vaCons (vTup (vaCons (vC (.str [115, 117, 109])) (vaCons (vC (.str [110, 111, 110, 101, 57])) (vaCons (vC (.int 7)) (vaCons (vC (.str [114, 101, 115, 116])) (vaCons (vC (.str [110, 111, 117, 103, 104, 116])) (vaNil))))))) (vaNil)))) (vSkip)) (vRet (vVar 2)))))
def lb_Lwithin0 : VTS := vIfS (vB (vOp sEq [none, none] (va2 (vOp oMod [none, none] (va2 (vOp oDiv [none, none] (va2 (vVar 1) (vOp sAdd [none, none] (va2 (vC (.int 1)) (vOp sMul [none, none] (va2 (vVar 3) (vVar 3))))))) (vC (.int 2)))) (vC (.int 0))))) (vAsg 0 (vStill (vLst (vaCons (vTup (vaCons (vC (.str [112, 97, 114, 116])) (vaCons (vOp sAdd [none, none] (va2 (vC (.int 1000)) (vVar 3))) (vaCons (vVar 0) (vaNil))))) (vaNil))))) (vAsg 0 (vStill (vLst (vaCons (vTup (vaCons (vC (.str [114, 111, 117, 110, 100])) (vaCons (vOp sAdd [none, none] (va2 (vC (.int 1000)) (vVar 3))) (vaCons (vOp sAdd [none, none] (va2 (vVar 0) (vLst (vaCons (vTup (vaCons (vC (.str [108, 101, 97, 118, 101])) (vaCons (vOp sAdd [none, none] (va2 (vC (.int 1000)) (vVar 3))) (vaNil)))) (vaNil))))) (vaNil))))) (vaNil)))))
def t_Lwithin : VTS := vSeq (vFor (viR1 (vaCons (vVar 2) (vaNil))) (vName 3) (lb_Lwithin0)) (vRet (vVar 0))
def lb_Ldeeds0 : VTS := vSeq (vAsg 6 (vOp sAdd [none, none] (va2 (vOp sAdd [none, none] (va2 (vVar 1) (vOp oDiv [none, none] (va2 (vVar 5) (vC (.int 2)))))) (vC (.int 1))))) (vIfS (vB (vOp sEq [none, none] (va2 (vOp oMod [none, none] (va2 (vVar 5) (vC (.int 2)))) (vC (.int 0))))) (vDrop (vMutN muAppend 4 (vaCons (vTup (vaCons (vC (.str [115, 117, 109])) (vaCons (vVar 0) (vaCons (vOp oSub [none, none] (va2 (vVar 6) (vC (.int 1)))) (vaCons (vC (.str [43])) (vaCons (vC (.int 1)) (vaCons (vVar 6) (vaNil)))))))) (vaNil)))) (vDrop (vMutN muAppend 4 (vaCons (vTup (vaCons (vC (.str [116, 101, 115, 116])) (vaCons (vVar 6) (vaCons (vC (.str [60])) (vaCons (vOp sAdd [none, none] (va2 (vVar 1) (vVar 2))) (vaCons (vOp oLt [none, none] (va2 (vVar 6) (vOp sAdd [none, none] (va2 (vVar 1) (vVar 2))))) (vaNil))))))) (vaNil)))))
def t_Ldeeds : VTS := vSeq (vAsg 4 (vLst (vaNil))) (vSeq (vFor (viR1 (vaCons (vOp sMin [none, none] (vaCons (vOp sMul [none, none] (va2 (vC (.int 2)) (vVar 2))) (vaCons (vVar 3) (vaNil)))) (vaNil))) (vName 5) (lb_Ldeeds0)) (vRet (vMov 4)))
def t_Lword : VTS := vSeq (vIfS (vOr (vB (vOp oGt [none, none] (va2 (vVar 0) (vC (.int 3))))) (vB (vOp oLt [none, none] (va2 (vVar 2) (vOp sMul [none, none] (va2 (vC (.int 2)) (vVar 1))))))) (vRet (vC (.str [111, 110]))) (vSkip)) (vSeq (vIfS (vB (vOp oLt [none, none] (va2 (vVar 0) (vC (.int 2))))) (vRet (vC (.str [101, 110, 100]))) (vSkip)) (vRet (vOp sIx [none, none] (va2 (vLst (vaCons (vC (.str [111, 110])) (vaCons (vC (.str [102, 97, 117, 108, 116])) (vaNil)))) (vOp sInt [none] (vaCons (vOp oGt [none, none] (va2 (vVar 2) (vOp sMul [none, none] (va2 (vC (.int 2)) (vVar 1))))) (vaNil)))))))
def tb_law19 : VTS  := vRet (vAndV (vCall ((sp_Lalike 8)) [none, none] (vaCons (vOp sIx [none, none] (va2 (vVar 11) (vC (.int 0)))) (vaCons (vVar 12) (vaNil)))) (vView (wCall (sp_Lsame_memory) (wCons (wOp sIx (w2 (wName 11) (wC (.int 2)))) (wCons (wName 13) (wNil))))))
def tb_law18 : VTS  := vSeq (vIfS (vOr (vNot (vB (vOp sIsi [none, none] (vaCons (vVar 11) (vaCons (vC (.ty "tuple")) (vaNil)))))) (vOr (vB (vOp sNe [none, none] (va2 (vOp sLen [none] (vaCons (vVar 11) (vaNil))) (vC (.int 3))))) (vNot (vB (vCall ((sp_Lalike 8)) [none, none] (vaCons (vOp sIx [none, none] (va2 (vVar 11) (vC (.int 1)))) (vaCons (vCall (sp_Lword) [none, none, none] (vaCons (vVar 6) (vaCons (vVar 3) (vaCons (vVar 10) (vaNil))))) (vaNil)))))))) (vRet (vC (.bl false))) (vSkip)) (tb_law19)
def tb_law17 : VTS  := vSeq (vIfS (vB (vOp oGt [none, none] (va2 (vOp sLen [none] (vaCons (vVar 12) (vaNil))) (vC (.int 0))))) (vSet 13 (vOp sAdd [none, none] (va2 (vVar 2) (vOp oDiv [none, none] (va2 (vOp sAdd [none, none] (va2 (vOp sLen [none] (vaCons (vVar 12) (vaNil))) (vC (.int 1)))) (vC (.int 2)))))) (vpName 13) (vVar 1)) (vSkip)) (tb_law18)
def tb_law16 : VTS  := vSeq (vAsg 13 (vOp sDict [some 8] (vaLate 8 (vaNil)))) (tb_law17)
def tb_law15 : VTS  := vSeq (vAsg 12 (vStill (vCall (sp_Ldeeds) [none, none, none, none] (vaCons (vVar 1) (vaCons (vVar 2) (vaCons (vVar 3) (vaCons (vVar 10) (vaNil)))))))) (tb_law16)
def tb_law14 : VTS  := vSeq (vIfS (vB (vOp sEq [none, none] (va2 (vVar 9) (vC (.int 0))))) (vAsg 11 (vStill (vLendD 100 (sp_run_form) (wCons (wName 5) (wCons (wName 8) (wNil)))))) (vAsg 11 (vStill (vLend (sp_run_form) (wCons (wName 5) (wCons (wName 8) (wCons (wName 10) (wNil)))))))) (tb_law15)
def tb_law13 : VTS  := vSeq (vAsg 10 (vOp sIx [none, none] (va2 (vLst (vaCons (vC (.int 100)) (vaCons (vC (.int 0)) (vaCons (vOp sMul [none, none] (va2 (vC (.int 2)) (vVar 3))) (vaCons (vOp oSub [none, none] (va2 (vOp sMul [none, none] (va2 (vC (.int 2)) (vVar 3))) (vC (.int 1)))) (vaCons (vOp sAdd [none, none] (va2 (vOp sMul [none, none] (va2 (vC (.int 2)) (vVar 3))) (vC (.int 1)))) (vaCons (vOp oMod [none, none] (va2 (vCall (sp_Lraw) [none, none] (vaCons (vVar 0) (vaCons (vC (.int 11)) (vaNil)))) (vC (.int 200)))) (vaNil)))))))) (vVar 9)))) (tb_law14)
def tb_law12 : VTS  := vSeq (vAsg 9 (vOp oMod [none, none] (va2 (vOp oDiv [none, none] (va2 (vCall (sp_Lmix) [none, none] (vaCons (vVar 0) (vaCons (vC (.int 10)) (vaNil)))) (vC (.int 8)))) (vC (.int 6))))) (tb_law13)
def tb_law11 : VTS  := vSeq (vIfS (vB (vOp sNe [none, none] (va2 (vVar 2) (vC (.int 0))))) (vSet 8 (vVar 2) (vpName 8) (vVar 1)) (vSkip)) (tb_law12)
def tb_law10 : VTS  := vSeq (vAsg 8 (vDisp (vdCons (vC (.str [108, 105, 109, 105, 116])) (vOp sAdd [none, none] (va2 (vVar 2) (vVar 3))) (vdNil)))) (tb_law11)
def tb_law9 : VTS  := vSeq (vAsg 5 (vStill (vCall (sp_Lwithin) [none, none, none] (vaCons (vStill (vOp sAdd [none, none] (va2 (vVar 5) (vCall (sp_Llast) [none, none, none] (vaCons (vVar 6) (vaCons (vVar 1) (vaCons (vVar 7) (vaNil)))))))) (vaCons (vCall (sp_Lmix) [none, none] (vaCons (vVar 0) (vaCons (vC (.int 8)) (vaNil)))) (vaCons (vOp oMod [none, none] (va2 (vOp oDiv [none, none] (va2 (vCall (sp_Lmix) [none, none] (vaCons (vVar 0) (vaCons (vC (.int 9)) (vaNil)))) (vC (.int 8)))) (vC (.int 61)))) (vaNil))))))) (tb_law10)
def tb_law8 : VTS  := vSeq (vAsg 7 (vStill (vCall (sp_Lspin) [none, none] (vaCons (vCall (sp_Lmix) [none, none] (vaCons (vVar 0) (vaCons (vC (.int 6)) (vaNil)))) (vaCons (vOp oMod [none, none] (va2 (vOp oDiv [none, none] (va2 (vCall (sp_Lmix) [none, none] (vaCons (vVar 0) (vaCons (vC (.int 7)) (vaNil)))) (vC (.int 8)))) (vC (.int 20)))) (vaNil)))))) (tb_law9)
def tb_law7 : VTS  := vSeq (vAsg 6 (vOp oMod [none, none] (va2 (vOp oDiv [none, none] (va2 (vCall (sp_Lmix) [none, none] (vaCons (vVar 0) (vaCons (vC (.int 5)) (vaNil)))) (vC (.int 8)))) (vC (.int 6))))) (tb_law8)
def tb_law6 : VTS  := vSeq (vAsg 5 (vStill (vCall (sp_Lcounting) [none, none, none, none] (vaCons (vOp oMod [none, none] (va2 (vOp oDiv [none, none] (va2 (vCall (sp_Lmix) [none, none] (vaCons (vVar 0) (vaCons (vC (.int 4)) (vaNil)))) (vC (.int 8)))) (vC (.int 3)))) (vaCons (vVar 1) (vaCons (vVar 4) (vaCons (vC (.int 5)) (vaNil)))))))) (tb_law7)
def tb_law5 : VTS  := vSeq (vAsg 4 (vOp sIx [none, none] (va2 (vLst (vaCons (vOp sAdd [none, none] (va2 (vVar 2) (vVar 3))) (vaCons (vC (.str [108, 105, 109, 105, 116])) (vaNil)))) (vOp oMod [none, none] (va2 (vOp oDiv [none, none] (va2 (vCall (sp_Lmix) [none, none] (vaCons (vVar 0) (vaCons (vC (.int 3)) (vaNil)))) (vC (.int 8)))) (vC (.int 2))))))) (tb_law6)
def tb_law4 : VTS  := vSeq (vIfS (vB (vOp sEq [none, none] (va2 (vOp oMod [none, none] (va2 (vOp oDiv [none, none] (va2 (vCall (sp_Lmix) [none, none] (vaCons (vVar 0) (vaCons (vC (.int 12)) (vaNil)))) (vC (.int 8)))) (vC (.int 8)))) (vC (.int 5))))) (vAsg 3 (vOp sAdd [none, none] (va2 (vC (.int 600)) (vOp oMod [none, none] (va2 (vOp oDiv [none, none] (va2 (vCall (sp_Lmix) [none, none] (vaCons (vVar 0) (vaCons (vC (.int 12)) (vaNil)))) (vC (.int 64)))) (vC (.int 900))))))) (vSkip)) (tb_law5)
def tb_law3 : VTS  := vSeq (vAsg 3 (vOp sAdd [none, none] (va2 (vC (.int 1)) (vOp oMod [none, none] (va2 (vOp oDiv [none, none] (va2 (vCall (sp_Lmix) [none, none] (vaCons (vVar 0) (vaCons (vC (.int 2)) (vaNil)))) (vC (.int 8)))) (vC (.int 50))))))) (tb_law4)
def tb_law2 : VTS  := vSeq (vIfS (vB (vOp sEq [none, none] (va2 (vOp oMod [none, none] (va2 (vOp oDiv [none, none] (va2 (vCall (sp_Lmix) [none, none] (vaCons (vVar 0) (vaCons (vC (.int 0)) (vaNil)))) (vC (.int 32)))) (vC (.int 2)))) (vC (.int 0))))) (vAsg 2 (vC (.int 0))) (vSkip)) (tb_law3)
def tb_law1 : VTS  := vSeq (vAsg 2 (vOp oSub [none, none] (va2 (vOp oMod [none, none] (va2 (vCall (sp_Lraw) [none, none] (vaCons (vVar 0) (vaCons (vC (.int 1)) (vaNil)))) (vOp sAdd [none, none] (va2 (vOp sMul [none, none] (va2 (vC (.int 2)) (vOp oPow [none, none] (va2 (vC (.int 10)) (vC (.int 18)))))) (vC (.int 1)))))) (vOp oPow [none, none] (va2 (vC (.int 10)) (vC (.int 18))))))) (tb_law2)
def t_law : VTS := vSeq (vAsg 1 (vOp sIx [none, none] (va2 (vLst (vaCons (vC (.str [120])) (vaCons (vC (.str [110, 49])) (vaCons (vC (.str [99, 111, 117, 110, 116, 101, 114, 49])) (vaCons (vC (.str [101])) (vaNil)))))) (vOp oMod [none, none] (va2 (vOp oDiv [none, none] (va2 (vCall (sp_Lmix) [none, none] (vaCons (vVar 0) (vaCons (vC (.int 0)) (vaNil)))) (vC (.int 8)))) (vC (.int 4))))))) (tb_law1)
end Pk53
namespace Pk53
open PySem PySem.Spec PyProof.Rows L2 VL
local macro_rules
  | `(tactic| simp! only [$ls,*] $[$loc:location]?) => `(tactic| simp (maxSteps := 4000000) only [startE, List.map_cons, List.map_nil, List.length_cons, List.length_nil, List.replicate, List.cons_append, List.nil_append, Nat.reduceAdd, Nat.reduceSub, Nat.zero_add,
  vSeq, vIfS, vRet, vRetN, vAsg, vAsgT, vName, vVar, vMov, vFrz, vC, va1, va2, vaCons, vaNil, vaLate, vOp, vOpQ, vB, vAnd, vOr, vNot, vAndV, vOrV, vNotV, vIf, vTup, vLst, vStill, vSkip, vDrop, vBrk, vCnt, vCall, vFor, viR1, viR2, viLst, viTup, viStr, viEnum, viZip, viRev, vSl, vNoPart, vPart, vDGet2, vM1, vPeek, vAddL, vSetd, vLcO, vForZO, vSet, vAt, vpName, vpIx, vMutN, vMut,
  restore, List.getElem?_cons_zero, List.getElem?_cons_succ, Option.some.injEq, exists_eq_left', isFz, isFzL, frz, frzL, List.set_cons_zero, List.set_cons_succ, e_sI2, e_sI2c, e_neg, e_addI, e_addS, e_addT, e_addL, e_mulI, e_divmod, e_eq, e_ne, eqOk_i, eqOk_s, eqOk_b, eqOk_si, eqOk_is, deq_i, deq_s, deq_b, deq_si, deq_is,
  e_isN, e_notN, e_isi, e_lenS, e_lenL, e_lenT, e_lenK, e_lenDT, e_ix, ixD_l, ixD_t, e_in, e_min, e_max, e_list, e_tuple, e_dict, e_rev, e_dget2, e_eqD, e_slS, e_slL, e_slT, isDct_K, isDct_T, tyNm, D.bl.injEq, D.int.injEq, D.str.injEq, true_and, and_true, decide_eq_true_eq, finalL, Nat.reduceLT, Nat.reduceLeDiff, if_true, Bool.and_self, and_self, pmod_lit, pdiv_lit, cml_lit_r, cml_lit_l, cpow_lit, cdv_lit, Int.reduceNe, Int.reduceEq, Int.reduceToNat, Int.reducePow, Int.reduceMul, Int.reduceAdd, Int.reduceSub, Int.reduceNeg, Int.reduceLT, Int.reduceLE, Nat.reduceLT, Nat.reduceLeDiff, Nat.reducePow, Nat.reduceEqDiff, ne_eq, not_false_eq_true, eq_self, reduceCtorEq, false_and, and_false, if_false, Bool.not_true, Bool.not_false, Bool.true_eq_false, Bool.false_eq_true, List.cons.injEq, e_app, lst_inj, exists_const, ixN_lit, Option.bind_some, getP_nilE, setP_nilE, exists_and_left, exists_eq', isT_nonetype_int, isT_nonetype_bool, isT_nonetype_str, isT_nonetype_list, isT_nonetype_tuple, isT_nonetype_dict, isT_int_int, isT_int_bool, isT_int_str, isT_int_list, isT_int_tuple, isT_int_dict, isT_bool_int, isT_bool_bool, isT_bool_str, isT_bool_list, isT_bool_tuple, isT_bool_dict, isT_str_int, isT_str_bool, isT_str_str, isT_str_list, isT_str_tuple, isT_str_dict, isT_list_int, isT_list_bool, isT_list_str, isT_list_list, isT_list_tuple, isT_list_dict, isT_tuple_int, isT_tuple_bool, isT_tuple_str, isT_tuple_list, isT_tuple_tuple, isT_tuple_dict, isT_dict_int, isT_dict_bool, isT_dict_str, isT_dict_list, isT_dict_tuple, isT_dict_dict, inT_int, inT_bool, inT_str, inT_list, inT_tuple, inT_dict, wName, wC, w1, w2, wNil, wCons, wOp, wCall, wTup, wLst, vView, vViewT, wMeth, flatD, tyOk_L, e_index, e_any, e_all, vAug, vForO, e_pop, names1, names2, names3, Bool.true_and, isFzL_nds, natsD_fz, isFz_nd, frz_nd, natsD_frz, frzL_nds, opD_fz, natsD_len, cutL_take, cutL_drop, List.take_succ_cons, List.take_zero, List.drop_succ_cons, List.drop_zero, frz_op, vLc, pull, forgetE, vYes, VL.isNon, D.tup.injEq, seqD_l, seqD_t, listD_l, listD_t, frz_rows, rowsF_fz, rowsD_len, rowsF_len, deq_ll, frz_rowsF, frzL_len, List.length_map, eqOk_n0, eqOk_nn, deqL_n0, deqL_nn, vDisp1, vDisp, vdCons, vdNil, rws_fz, rws_frz, mm_fz, mm_frz, deds_fz, deds_frz, strs_fz, strs_frz, isDct_mm, plc_frz, vLend, slice_script, frz_ints, new_told, ded_frz, rwD_frz, std_fz, std_frz, std_len, ln_fz, ln_frz, lns_fz, lns_frz, tk_fz, fms_fz, fms_frz, fm_fz, fm_frz, e_strS, e_join, e_joinA, e_split, e_part, e_starts, e_inG, viRd, $ls,*] $[$loc]?)
theorem rd_Deeds_told : Rd 2 [true, true] 2 sp_Deeds_told t_Deeds_told := by
  rintro ds Q Ex hl ⟨⟨d, w⟩, rfl, _, q⟩
  unfold t_Deeds_told
  simp! only [vListF, vDictF]
  exact ⟨_, _, rfl, 2, rfl, _, rfl, deds_fz _, _, _, rfl, 0, rfl, _, _, rfl, mm_fzL _, q⟩
theorem rd_Deeds_test_of : Rd 4 [true, true, true, true] 7 sp_Deeds_test_of t_Deeds_test_of := by
  rintro ds Q Ex hl ⟨⟨d, a, s, b⟩, rfl, hd, q⟩
  have hd : d.done.length < 1000000 := hd
  unfold t_Deeds_test_of
  simp! only [vMeth, opD_fz]
  refine ⟨⟨_, _, rfl, rfl⟩, c_Deeds_worth_of ?_⟩
  simp! only [vMeth, opD_fz]
  refine ⟨⟨_, _, rfl, rfl⟩, c_Deeds_worth_of ?_⟩
  simp! only [vMeth, opD_fz, c_holds]
  refine ⟨⟨_, rfl⟩, _, _, _, 2, rfl, rfl, rfl, (by show 2 < 3; decide), _, rfl, by simpa using hd, ?_⟩
  have q : Q (.bl (holdsV s (worthM d.mem a) (worthM d.mem b))) [ddsD true ⟨d.mem, d.most, d.done ++ [.test (worthM d.mem a) s (worthM d.mem b) (holdsV s (worthM d.mem a) (worthM d.mem b))]⟩, opD a, .str s, opD b] := q
  simp only [ddsD, List.map_append, List.map_cons, List.map_nil] at q
  exact q
theorem rd_Deeds_sum_of : Rd 5 [true, true, true, true, true] 8 sp_Deeds_sum_of t_Deeds_sum_of := by
  rintro ds Q Ex hl ⟨⟨d, x, a, s, b⟩, rfl, ⟨hs, hm, hd⟩, q⟩
  have hs : Sm (worthM d.mem b) := hs
  have hm : d.mem.length < 1000000 := hm
  have hd : d.done.length < 1000000 := hd
  have q : match madeV s (worthM d.mem a) (worthM d.mem b) with
    | some v => Q .non [ddsD true ⟨putM d.mem x v, d.most, d.done ++ [.sum x (worthM d.mem a) s (worthM d.mem b) v]⟩, .str x, opD a, .str s, opD b]
    | none => Ex (.type "ByNought") .non [ddsD true d, .str x, opD a, .str s, opD b] := q
  show t_Deeds_sum_of _ (startE 8 [ddsD true d, .str x, opD a, .str s, opD b])
  unfold SumA.args
  unfold t_Deeds_sum_of
  simp! only [vMeth, opD_fz]
  refine ⟨⟨_, _, rfl, rfl⟩, c_Deeds_worth_of ?_⟩
  simp! only [vMeth, opD_fz]
  refine ⟨⟨_, _, rfl, rfl⟩, c_Deeds_worth_of ?_⟩
  simp! only [vMeth, opD_fz]
  refine c_made hs ?_
  cases e : madeV s (worthM d.mem a) (worthM d.mem b) with
  | none =>
    rw [e] at q
    exact ⟨rfl, by show 5 ≤ 8; decide, q⟩
  | some v =>
    rw [e] at q
    refine ⟨rfl, ?_⟩
    simp! only [vMeth, opD_fz]
    refine ⟨⟨_, rfl⟩, _, _, _, 2, rfl, rfl, rfl, (by show 2 < 3; decide), _, rfl, ?_⟩
    refine ⟨_, rfl, ?_⟩
    rw [dds_frz]
    refine ⟨⟨_, _, rfl, rfl⟩, _, rfl, c_Deeds_name_of ⟨rfl, by simpa using hd, ?_⟩⟩
    refine ⟨⟨_, rfl⟩, _, _, _, 0, rfl, rfl, rfl, (by show 0 < 3; decide), _, rfl, _, put_mm hm, ?_⟩
    simp only [ddsD, List.map_append, List.map_cons, List.map_nil] at q
    exact q
theorem rd_Deeds_name_of : Rd 2 [true, true] 2 sp_Deeds_name_of t_Deeds_name_of := by
  rintro ds Q Ex hl ⟨⟨m, d, x⟩, rfl, _, q⟩
  unfold t_Deeds_name_of
  simp! only []
  exact q
theorem rd_Deeds_worth_of : Rd 2 [true, true] 2 sp_Deeds_worth_of t_Deeds_worth_of := by
  rintro ds Q Ex hl ⟨⟨d, a⟩, rfl, _, q⟩
  unfold t_Deeds_worth_of
  simp! only [wFld, dds_frz, opD_fz]
  refine ⟨_, _, rfl, 0, rfl, _, rfl, c_worth ⟨rfl, q⟩⟩
theorem rd_Deeds_full : Rd 1 [true] 1 sp_Deeds_full t_Deeds_full := by
  rintro ds Q Ex hl ⟨d, rfl, _, q⟩
  unfold t_Deeds_full
  simp! only [wFld, dds_frz]
  refine ⟨_, _, rfl, 2, rfl, _, rfl, ?_⟩
  simp! only [List.length_map]
  refine ⟨_, _, rfl, 1, rfl, _, rfl, ?_⟩
  simp! only []
  exact q
theorem rd_Deeds_init : Rd 3 [true, true, true] 3 sp_Deeds_init t_Deeds_init := by
  rintro ds Q Ex hl ⟨⟨M, most⟩, rfl, _, q⟩
  unfold t_Deeds_init
  simp! only [vFld, mm_fz]
  refine ⟨false, _, _, rfl, mm_fzL M, ?_⟩
  exact ⟨_, _, rfl, rfl, by decide, _, _, rfl, rfl, by decide, _, _, rfl, rfl, by decide, q⟩
theorem rd_made : Rd 3 [true, true, true] 5 sp_made t_made := by
  rintro ds Q Ex hl ⟨⟨s, i, j⟩, rfl, hj, q⟩
  have hj : Sm j := hj
  have q : match (madeV s i j).map D.int with
    | some r => Q r [.str s, .int i, .int j]
    | none => Ex (.type "ByNought") .non [.str s, .int i, .int j] := q
  unfold madeV at q
  unfold t_made
  simp! only []
  by_cases h1 : s = [43]
  · rw [if_pos h1]; rw [if_pos h1] at q; exact q
  rw [if_neg h1]; rw [if_neg h1] at q
  by_cases h2 : s = [45]
  · rw [if_pos h2]; rw [if_pos h2] at q; exact q
  rw [if_neg h2]; rw [if_neg h2] at q
  by_cases h3 : s = [38]
  · rw [if_pos h3]; rw [if_pos h3] at q; exact q
  rw [if_neg h3]; rw [if_neg h3] at q
  by_cases h4 : s = [94]
  · rw [if_pos h4]; rw [if_pos h4] at q; exact q
  rw [if_neg h4]; rw [if_neg h4] at q
  by_cases h5 : j = 0
  · rw [if_pos h5]; rw [if_pos h5] at q; exact ⟨by simp, q⟩
  rw [if_neg h5]; rw [if_neg h5] at q
  refine ⟨cdv_sm h5 hj, ?_⟩
  by_cases h6 : s = [47]
  · rw [if_pos h6]; rw [if_pos h6] at q; exact q
  rw [if_neg h6]; rw [if_neg h6] at q; exact q
theorem rd_holds : Rd 3 [true, true, true] 3 sp_holds t_holds := by
  rintro ds Q Ex hl ⟨⟨s, i, j⟩, rfl, _, q⟩
  unfold t_holds
  simp! only []
  have q : Q (.bl (if s = [60] then decide (i < j) else decide (i = j))) [.str s, .int i, .int j] := q
  by_cases h : s = [60]
  · rw [if_pos h]
    rw [if_pos h] at q
    exact q
  · rw [if_neg h]
    rw [if_neg h] at q
    exact q
theorem rd_worth : Rd 2 [true, true] 2 sp_worth t_worth := by
  rintro ds Q Ex hl ⟨⟨a, M⟩, rfl, _, q⟩
  unfold t_worth
  cases a with
  | inl i =>
    simp! only [opD]
    exact q
  | inr s =>
    simp! only [opD, isDct_mm, vdget_mm, mm_fz]
    exact q
theorem rd_run_round (n : Nat) : Rd 2 [true, true] 4 (sp_run_round n) (t_run_round n) := by
  rintro ds Q Ex hl ⟨⟨m, B, d⟩, rfl, ⟨h, p⟩, q⟩
  have h : dpL B < n := h
  have p : PreI d (lnsL B) := p
  have q : RsOut (runFm 4000 (.round m B) d) (fun d' => [.tup [.str cRound, .int m, .lst false (fmsD B)], ddsD true d']) Q Ex := q
  rw [runFm] at q
  unfold RunRA.args t_run_round
  refine ⟨fun k ε => ∃ (d : Dds) (u v : Option D), PreI d (lnsL B) ∧ d.rem < k ∧ RsOut (loopR (fun d => runLs 4000 B d) m k d) (fun d' => [.tup [.str cRound, .int m, .lst false (fmsD B)], ddsD true d']) Q Ex ∧ ε = [some (.tup [.str cRound, .int m, .lst false (fmsD B)]), some (ddsD true d), u, v], ⟨4000, d, none, none, p, p.1, q, rfl⟩, ?_⟩
  rintro k ε ⟨d, u, v, p, hk, q, rfl⟩
  obtain ⟨k, rfl⟩ : ∃ j, k = j + 1 := ⟨k - 1, by omega⟩
  unfold lb_run_round0
  simp! only [fms_fz]
  refine fld_done rfl ?_
  simp! only [fms_fz]
  refine c_run_list ⟨h, p⟩ (fun d' g e => ⟨rfl, ?_⟩) fun d' e => ⟨rfl, ?_⟩
  · obtain ⟨⟨ds, gr⟩, p'⟩ := p.stepL (L' := lnsL B) (fun l hl => hl) (fun l hl => hl) e
    simp! only [gs_fz, fms_fz, gs_deqL, gs_deqA, gs_non]
    have q := q
    rw [loop_eq (body := fun d => runLs 4000 B d) e] at q
    have back : RsOut (if d'.done.length = d.done.length then (d', some .on) else loopR (fun d => runLs 4000 B d) m k d') (fun d' => [.tup [.str cRound, .int m, .lst false (fmsD B)], ddsD true d']) Q Ex →
        wFld 0 cDoneF (wName 1) [some (.tup [.str cRound, .int m, .lst false (fmsD B)]), some (ddsD true d'), some (.int (d.done.length : Int)), some (gsD g)] fun d_1 => sLen [d_1] fun d_2 => eqOk (frz d_2) (.int (d.done.length : Int)) ∧
          if deq (frz d_2) (.int (d.done.length : Int)) = true then Q (.tup [.str [111, 110]]) [.tup [.str cRound, .int m, .lst false (fmsD B)], ddsD true d']
          else ∃ m', m' < k + 1 ∧ ∃ d2, PreI d2 (lnsL B) ∧ d2.rem < m' ∧ RsOut (loopR (fun d => runLs 4000 B d) m m' d2) (fun d' => [.tup [.str cRound, .int m, .lst false (fmsD B)], ddsD true d']) Q Ex ∧ ddsD true d' = ddsD true d2 := fun q => by
      refine fld_done rfl ?_
      simp! only []
      have rm := gr.rem
      have ln : d'.done.length = d.done.length + ds.length := by rw [gr.done, List.length_append]
      by_cases z : d'.done.length = d.done.length
      · rw [if_pos z] at q
        rw [if_pos (by omega)]
        exact q
      · rw [if_neg z] at q
        rw [if_neg (by omega)]
        exact ⟨k, by omega, d', p', by omega, q, rfl⟩
    refine ⟨(gs_eq1 g m).1, ?_⟩
    cases g with
    | nil =>
      refine ite_no (fun z => nomatch z) ⟨fun z => (nomatch z), ite_no (fun z => nomatch z) ?_⟩
      exact back q
    | leave m' =>
      have q : RsOut (if m' = m then (d', some .nil) else (d', some (.leave m'))) _ Q Ex := q
      by_cases z : m' = m
      · rw [if_pos z] at q
        exact ite_yes (decide_eq_true z) q
      · rw [if_neg z] at q
        refine ite_no (fun w => z (of_decide_eq_true w)) ⟨fun z => (nomatch z), ite_yes rfl ⟨(gs_eq1 (.leave m') m).2.1, ite_yes rfl ?_⟩⟩
        exact q
    | again m' =>
      have q : RsOut (if m' = m then (if d'.done.length = d.done.length then (d', some .on) else loopR (fun d => runLs 4000 B d) m k d') else (d', some (.again m'))) _ Q Ex := q
      refine ite_no (fun z => nomatch z) ⟨fun z => (nomatch z), ite_yes rfl ⟨(gs_eq1 (.again m') m).2.1, ?_⟩⟩
      by_cases z : m' = m
      · rw [if_pos z] at q
        exact ite_no (by show ¬((!decide (m' = m)) = true); rw [decide_eq_true z]; exact fun w => nomatch w) (back q)
      · rw [if_neg z] at q
        exact ite_yes (by show (!decide (m' = m)) = true; rw [decide_eq_false z]; rfl) q
    | fin => exact ite_no (fun z => nomatch z) ⟨fun z => (nomatch z), ite_yes rfl ⟨(gs_eq1 .fin m).2.1, ite_yes rfl q⟩⟩
    | on => exact ite_no (fun z => nomatch z) ⟨fun z => (nomatch z), ite_yes rfl ⟨(gs_eq1 .on m).2.1, ite_yes rfl q⟩⟩
  · simp! only [fms_fz]
    rw [loop_eq (body := fun d => runLs 4000 B d) e] at q
    exact q
theorem rd_run_statement (n : Nat) : Rd 2 [true, true] 3 (sp_run_statement n) (t_run_statement n) := by
  rintro ds Q Ex hl ⟨⟨f, d⟩, rfl, ⟨h, p⟩, q⟩
  have h : dpF f ≤ n := h
  have p : PreI d (lnsF f) := p
  have q : RsOut (runFm 4000 f d) (fun d' => [fmD f, ddsD true d']) Q Ex := q
  unfold RunSA.args t_run_statement
  cases f with
  | round m B =>
    have pB : PreI d (lnsL B) := p.mono fun l hl => by rw [lnsF]; exact List.mem_cons_of_mem _ (List.mem_append_left _ hl)
    rw [dpF] at h
    simp only [fmD] at q ⊢
    simp! only [fms_fz]
    refine c_run_round ⟨by omega, pB⟩ (fun d' g e => ⟨rfl, ?_⟩) fun d' e => ⟨rfl, ?_⟩
    · simp! only [fms_fz]
      exact q.yes e
    · simp! only [fms_fz]
      exact q.no e
  | part m B =>
    have pB : PreI d (lnsL B) := p.mono fun l hl => by rw [lnsF]; exact List.mem_cons_of_mem _ (List.mem_append_left _ hl)
    rw [dpF] at h
    rw [runFm] at q
    simp only [fmD] at q ⊢
    simp! only [fms_fz]
    refine c_run_list ⟨by omega, pB⟩ (fun d' g e => ⟨rfl, ?_⟩) fun d' e => ⟨rfl, ?_⟩
    · rw [e] at q
      simp! only [fms_fz, gs_fz, gs_deqL]
      refine ⟨(gs_eq1 g m).1, ?_⟩
      cases g with
      | leave m' =>
        have q : RsOut (if m' = m then (d', some .nil) else (d', some (.leave m'))) _ Q Ex := q
        by_cases z : m' = m
        · rw [if_pos z] at q
          exact ite_yes (decide_eq_true z) q
        · rw [if_neg z] at q
          exact ite_no (fun w => z (of_decide_eq_true w)) q
      | _ => exact ite_no (fun z => nomatch z) q
    · rw [e] at q
      simp! only [fms_fz]
      exact q
  | leave m =>
    rw [runFm] at q
    simp only [fmD] at q ⊢
    simp! only []
    exact q
  | again m =>
    rw [runFm] at q
    simp only [fmD] at q ⊢
    simp! only []
    exact q
  | fin =>
    rw [runFm] at q
    simp only [fmD] at q ⊢
    simp! only []
    exact q
  | sum x a s b =>
    obtain ⟨_, I, hk, hi⟩ := id p
    have few := p.few
    rw [runFm] at q
    unfold sumR at q
    simp only [fmD] at q ⊢
    simp! only [opD_fz, vMeth]
    refine ite_no (by decide) ?_
    refine ⟨⟨_, _, rfl, rfl⟩, c_Deeds_full ⟨rfl, _, rfl, ?_⟩⟩
    by_cases hf : d.most ≤ (d.done.length : Int)
    · rw [if_pos hf] at q
      rw [if_pos (decide_eq_true hf)]
      simp! only [opD_fz]
      exact q
    · rw [if_neg hf] at q
      rw [if_neg (by simpa using hf)]
      simp! only [opD_fz, vMeth]
      have sm : Sm (worthM d.mem b) := (hk.sum x a s b (by rw [lnsF]; exact List.mem_cons_self) d hi hf).1
      refine ⟨⟨_, _, rfl, rfl⟩, c_Deeds_sum_of ⟨sm, by omega, by omega⟩ ?_⟩
      cases hv : madeV s (worthM d.mem a) (worthM d.mem b) with
      | none =>
        rw [hv] at q
        refine ⟨rfl, ?_⟩
        simp! only [opD_fz]
        exact q
      | some v =>
        rw [hv] at q
        refine ⟨rfl, ?_⟩
        simp! only [opD_fz]
        exact q
  | choice a s b Y Z e =>
    have pY : ∀ d', PreI d' (lnsF (.choice a s b Y Z e)) → PreI d' (lnsL Y) := fun d' p => p.mono fun l hl => by rw [lnsF]; exact List.mem_cons_of_mem _ (List.mem_append_left _ hl)
    have e2 : (if e = true then fmsD Z else []) = fmsD (if e = true then Z else []) := by cases e; rw [if_neg (by decide), if_neg (by decide), fmsD]; rfl
    have pZ : ∀ d', PreI d' (lnsF (.choice a s b Y Z e)) → PreI d' (lnsL (if e = true then Z else [])) := fun d' p => p.mono fun l hl => by
      rw [lnsF]
      cases e with
      | false => rw [if_neg (by decide), lnsL] at hl; cases hl
      | true =>
        rw [if_pos rfl] at hl ⊢
        exact List.mem_cons_of_mem _ (List.mem_append_right _ (List.mem_append_left _ (List.mem_cons_of_mem _ hl)))
    have hY : dpL Y < n ∧ dpL (if e = true then Z else []) < n := by
      rw [dpF] at h
      cases e
      · simp [dpL]; simp at h; omega
      · simp at h ⊢; omega
    rw [runFm] at q
    have eR : ∀ d', (if e = true then runLs 4000 Z d' else (d', some .nil) : Rs) = runLs 4000 (if e = true then Z else []) d' := fun d' => by
      cases e
      · rw [if_neg (by decide), if_neg (by decide), runLs]
      · rfl
    rw [eR] at q
    simp only [fmD, e2] at q ⊢
    generalize (if e = true then Z else []) = Z2 at *
    simp! only [opD_fz, fms_fz, vMeth]
    refine ite_yes (by decide) (ite_no (by decide) ?_)
    refine ⟨⟨_, _, rfl, rfl⟩, c_Deeds_full ⟨rfl, _, rfl, ?_⟩⟩
    by_cases hf : d.most ≤ (d.done.length : Int)
    · rw [if_pos hf] at q
      rw [if_pos (decide_eq_true hf)]
      simp! only [opD_fz, fms_fz]
      exact q
    · rw [if_neg hf] at q
      rw [if_neg (by simpa using hf)]
      simp! only [opD_fz, fms_fz, vMeth]
      have few := p.few
      have p1 : PreI (testD d a s b) (lnsF (.choice a s b Y Z e)) := by
        obtain ⟨hr, I, hk, hi⟩ := p
        have gr : Grow d (testD d a s b) [.test (worthM d.mem a) s (worthM d.mem b) (holdsV s (worthM d.mem a) (worthM d.mem b))] := grow1 hf
        have := gr.rem
        exact ⟨by omega, I, hk, hk.test a s b (by rw [lnsF]; exact List.mem_cons_self) d hi hf⟩
      refine ⟨⟨_, _, rfl, rfl⟩, c_Deeds_test_of (by omega) ⟨rfl, _, rfl, ?_⟩⟩
      by_cases ht : holdsV s (worthM d.mem a) (worthM d.mem b) = true
      · rw [if_pos ht] at q ⊢
        simp! only [opD_fz, fms_fz]
        refine c_run_list (d := testD d a s b) ⟨hY.1, pY _ p1⟩ (fun d' g e => ⟨rfl, ?_⟩) fun d' e => ⟨rfl, ?_⟩
        · simp! only [opD_fz, fms_fz]
          exact q.yes e
        · simp! only [opD_fz, fms_fz]
          exact q.no e
      · rw [if_neg ht] at q ⊢
        simp! only [opD_fz, fms_fz]
        refine c_run_list (d := testD d a s b) ⟨hY.2, pZ _ p1⟩ (fun d' g e => ⟨rfl, ?_⟩) fun d' e => ⟨rfl, ?_⟩
        · simp! only [opD_fz, fms_fz]
          exact q.yes e
        · simp! only [opD_fz, fms_fz]
          exact q.no e
theorem for_run_list {n : Nat} {a : Option D} {N : VEnds} : ∀ (F : List Fm) (d : Dds) (u v : Option D), dpL F ≤ n → PreI d (lnsL F) →
    (∀ d' u v, runLs 4000 F d = (d', some .nil) → N.nx [a, some (ddsD true d'), u, v]) →
    (∀ d' g u v, runLs 4000 F d = (d', some g) → N.rt (gsD g) [a, some (ddsD true d'), u, v]) →
    (∀ d' u v, runLs 4000 F d = (d', none) → N.rx (.type "ByNought") .non [a, some (ddsD true d'), u, v]) →
    vForL (vName 2) (lb_run_list0 n) (fmsD F) N [a, some (ddsD true d), u, v]
  | [], d, u, v, h, p, q1, q2, q3 => by
    rw [fmsD]
    exact q1 d u v (by rw [runLs])
  | f :: F, d, u, v, h, p, q1, q2, q3 => by
    rw [dpL] at h
    have sf : ∀ l ∈ lnsF f, l ∈ lnsL (f :: F) := fun l hl => by rw [lnsL]; exact List.mem_append_left _ hl
    have sF : ∀ l ∈ lnsL F, l ∈ lnsL (f :: F) := fun l hl => by rw [lnsL]; exact List.mem_append_right _ hl
    have pf : PreI d (lnsF f) := p.mono sf
    rw [fmsD, e_forU (lb_run_list0.eq_1 n)]
    simp! only [fm_fz]
    refine c_run_statement ⟨by omega, pf⟩ (fun d' g e => ⟨rfl, ?_⟩) fun d' e => ⟨rfl, ?_⟩
    · obtain ⟨⟨ds, gr⟩, pF⟩ := p.stepF sf sF e
      simp! only [gs_fz]
      have er : runLs 4000 (f :: F) d = thenR (d', some g) fun d => runLs 4000 F d := by rw [runLs, e]
      cases g with
      | nil =>
        have er : runLs 4000 (f :: F) d = runLs 4000 F d' := er
        refine ⟨fun z => (nomatch z), ?_⟩
        exact ite_no (fun z => nomatch z) (for_run_list F d' _ _ (by omega) pF (fun d2 u v e2 => q1 d2 u v (er.trans e2)) (fun d2 g u v e2 => q2 d2 g u v (er.trans e2)) fun d2 u v e2 => q3 d2 u v (er.trans e2))
      | _ =>
        refine ⟨fun z => (nomatch z), ?_⟩
        exact ite_yes rfl (q2 d' _ _ _ er)
    · simp! only []
      exact q3 d' _ _ (by rw [runLs, e]; rfl)
theorem rd_run_list (n : Nat) : Rd 2 [true, true] 4 (sp_run_list (n + 1)) (t_run_list n) := by
  rintro ds Q Ex hl ⟨⟨F, d⟩, rfl, ⟨h, p⟩, q⟩
  have h : dpL F ≤ n := h
  have p : PreI d (lnsL F) := p
  have q : RsOut (runLs 4000 F d) (fun d' => [.lst false (fmsD F), ddsD true d']) Q Ex := q
  unfold RunFA.args t_run_list
  simp! only [fms_fz]
  refine for_run_list F d none none h p (fun d' u v e => ?_) (fun d' g u v e => ?_) fun d' u v e => ?_
  · simp! only [fms_fz]
    exact q.yes e
  · simp! only [fms_fz]
    exact q.yes e
  · simp! only [fms_fz]
    exact q.no e
theorem rd_run_form : Rd 3 [true, true, true] 5 sp_run_form t_run_form := by
  rintro ds Q Ex hl ⟨⟨F, M, most⟩, rfl, ⟨h, p⟩, q⟩
  have h : dpL F ≤ 88 := h
  have p : PreI ⟨M, most, []⟩ (lnsL F) := p
  have q : Q (toldD (tellR (runLs 4000 F ⟨M, most, []⟩))) [.lst false (fmsD F), mmD false M, .int most] := q
  unfold RunMA.args t_run_form
  simp! only [fms_fz, vNew, mm_fz]
  refine c_Deeds_init ⟨rfl, _, _, rfl, rfl, ?_⟩
  simp! only [fms_fz, mm_fz, vTryE]
  unfold ly_run_form0
  simp! only [fms_fz, mm_fz]
  refine c_run_list (d := ⟨M, most, []⟩) ⟨by omega, p⟩ (fun d' g e => ⟨rfl, ?_⟩) fun d' e => ⟨rfl, ?_⟩
  · rw [e] at q
    unfold lz_run_form0
    simp! only [gs_fz, gs_deqO, vMeth]
    refine ⟨(gs_eq1 g 0).2.2, ?_⟩
    have fin : ∀ w : Cs, Q (toldD (d'.done, w, d'.mem)) [.lst false (fmsD F), mmD false M, .int most] → sp_Deeds_told [ddsD true d', .str w] (fun r ds' => ds'.length = 2 ∧ 3 ≤ (restore [some 3, none] ds' [some (.lst false (fmsD F)), some (mmD false M), some (.int most), none, some (gsD g)]).length ∧ Q r (finalL [true, true, true] [.lst false (fmsD F), mmD false M, .int most] (restore [some 3, none] ds' [some (.lst false (fmsD F)), some (mmD false M), some (.int most), none, some (gsD g)])))
      (fun cls row ds' => ds'.length = 2 ∧ 3 ≤ (restore [some 3, none] ds' [some (.lst false (fmsD F)), some (mmD false M), some (.int most), none, some (gsD g)]).length ∧ Ex cls row (finalL [true, true, true] [.lst false (fmsD F), mmD false M, .int most] (restore [some 3, none] ds' [some (.lst false (fmsD F)), some (mmD false M), some (.int most), none, some (gsD g)]))) := fun w q => by
      refine c_Deeds_told ⟨rfl, ?_⟩
      simp! only [fms_fz, mm_fz]
      exact q
    cases g with
    | on => exact ite_yes rfl ⟨⟨_, _, rfl, rfl⟩, fin _ q⟩
    | _ => exact ite_no (fun z => nomatch z) ⟨⟨_, _, rfl, rfl⟩, fin _ q⟩
  · rw [e] at q
    simp! only [fms_fz]
    refine ⟨_, rfl, true, rfl, .inl ⟨rfl, ?_⟩⟩
    unfold lx_run_form0
    simp! only [fms_fz, mm_fz, vMeth]
    refine ⟨⟨_, _, rfl, rfl⟩, c_Deeds_told ⟨rfl, ?_⟩⟩
    simp! only [fms_fz, mm_fz]
    exact q
theorem rd_Lraw : Rd 2 [true, true] 2 sp_Lraw t_Lraw := by
  rintro ds Q Ex hl ⟨⟨ns, k⟩, rfl, h, q⟩
  have h : 0 ≤ k := h
  have q : Q (.int (rawI ns k)) [scriptD ns, .int k] := q
  unfold t_Lraw
  unfold rawI at q
  simp! only [script_fz, script_len]
  by_cases h0 : ns.length = 0
  · rw [if_pos h0] at q
    rw [if_pos (by omega)]
    exact q
  · rw [if_neg h0] at q
    rw [if_neg (by omega)]
    have a0 := Int.emod_nonneg k (show (ns.length : Int) ≠ 0 by omega)
    have a1 := Int.emod_lt_of_pos k (show (0 : Int) < ns.length by omega)
    refine ⟨by omega, .int (ns.getD (k % (ns.length : Int)).toNat 0), ?_, rfl, q⟩
    rw [pmod_pos (by omega)]
    show (ixN (ns.map D.int).length (k % (ns.length : Int))).bind (fun j => (ns.map D.int)[j]?) = _
    rw [List.length_map, ixN_pos a0 (by omega)]
    show (ns.map D.int)[(k % (ns.length : Int)).toNat]? = _
    rw [List.getElem?_map, List.getElem?_eq_getElem (by omega), List.getD_eq_getElem?_getD, List.getElem?_eq_getElem (by omega)]
    rfl
theorem rd_Lmix : Rd 2 [true, true] 3 sp_Lmix t_Lmix := by
  rintro ds Q Ex hl ⟨⟨ns, k⟩, rfl, ⟨hn, h, h2⟩, q⟩
  have hn : ns.length ≤ 63 := hn
  have h : 0 ≤ k := h
  have h2 : k < 1000000 := h2
  have q : Q (.int (mixI ns k)) [scriptD ns, .int k] := q
  unfold t_Lmix
  unfold mixI at q
  simp! only [script_fz, script_len]
  by_cases h0 : ns.length = 0
  · rw [if_pos h0] at q
    rw [if_pos (by omega)]
    exact ⟨.inl (.inl (by omega)), q⟩
  · rw [if_neg h0] at q
    rw [if_neg (by omega)]
    refine ⟨cdv_of (by omega) (by omega), ?_⟩
    refine c_Lraw h ?_
    simp! only [pdiv_pos (show (0 : Int) < ns.length by omega)]
    have d0 : 0 ≤ k / (ns.length : Int) := Int.ediv_nonneg h (by omega)
    have d1 : k / (ns.length : Int) ≤ k := Int.ediv_le_self _ h
    exact ⟨.inl (.inr (by omega)), .inl (.inl (by omega)), q⟩
theorem loop_Lalike {n : Nat} {a b : Option D} {N : VEnds} : ∀ (xs : List D) (u v : Option D), plNL n xs = true →
    (∀ u v, N.nx [a, b, u, v]) → vForL (vNames [2, 3]) (lb_Lalike0 (n + 1)) (zipD xs xs) N [a, b, u, v]
  | [], u, v, _, q => q u v
  | x :: xs, u, v, h, q => by
    rw [plNL] at h
    obtain ⟨h1, h2⟩ := Bool.and_eq_true_iff.mp h
    have zf := plN_fz n _ h1
    show vForL (vNames [2, 3]) (lb_Lalike0 (n + 1)) (D.tup [x, x] :: zipD xs xs) N [a, b, u, v]
    rw [e_forU (lb_Lalike0.eq_1 (n + 1))]
    simp! only [zf]
    refine c_Lalike rfl h1 ?_
    simp! only []
    exact loop_Lalike xs _ _ h2 q
theorem rd_Lalike (n : Nat) : Rd 2 [true, true] 4 (sp_Lalike (n + 1)) (t_Lalike n) := by
  rintro ds Q Ex hl ⟨a, rfl, hk, q⟩
  have q : Q (.bl true) [a, a] := q
  have hk : plN n a = true := hk
  unfold t_Lalike
  cases a with
  | non => cases n <;> simp [plN] at hk
  | bl b => simp! only []; exact q
  | int i => simp! only []; exact q
  | str s => simp! only []; exact q
  | tup xs =>
    cases n with
    | zero => simp [plN] at hk
    | succ n =>
      have hk : (decide (xs.length < 1000000) && plNL n xs) = true := hk
      obtain ⟨h1, h2⟩ := Bool.and_eq_true_iff.mp hk
      have h1 := of_decide_eq_true h1
      have hz2 := plNL_fz h2
      simp! only [hz2, decide_true, Bool.not_true, viZipA]
      refine ⟨xs, xs, .inr ⟨⟨rfl, rfl⟩, hz2, hz2⟩, ?_⟩
      refine loop_Lalike xs none none h2 fun u v => ?_
      simp! only [hz2]
      exact q
  | lst m xs =>
    cases m with
    | true => cases n <;> simp [plN] at hk
    | false =>
      cases n with
      | zero => simp [plN] at hk
      | succ n =>
        have hk : (!false && (decide (xs.length < 1000000) && plNL n xs)) = true := hk
        rw [Bool.not_false, Bool.true_and] at hk
        obtain ⟨h1, h2⟩ := Bool.and_eq_true_iff.mp hk
        have h1 := of_decide_eq_true h1
        have hz2 := plNL_fz h2
        simp! only [hz2, decide_true, Bool.not_true, viZipA]
        refine ⟨xs, xs, .inl ⟨rfl, rfl⟩, ?_⟩
        refine loop_Lalike xs none none h2 fun u v => ?_
        simp! only [hz2]
        exact q
  | _ => cases n <;> simp [plN] at hk
theorem lk_mem {M : Mem} {s : Cs} (h : s ∈ M.map Prod.fst) : ∃ (j : Nat) (p : Cs × Int), kIx (M.map fun p : Cs × Int => (Sum.inr p.1 : Kc)) (.inr s) = some j ∧ M[j]? = some p := by
  induction M with
  | nil => cases h
  | cons q M ih =>
    simp only [List.map_cons, kIx]
    by_cases e : q.1 = s
    · exact ⟨0, q, by rw [if_pos (by rw [e])], rfl⟩
    · rw [List.map_cons, List.mem_cons] at h
      have h := h.resolve_left fun z => e z.symm
      obtain ⟨j, p, h1, h2⟩ := ih h
      exact ⟨j + 1, p, by rw [if_neg fun z => e (Sum.inr.inj z), h1]; rfl, h2⟩
theorem ix_mem {m : Bool} {M : Mem} {s : Cs} (h : s ∈ M.map Prod.fst) : ∃ i : Int, ixD (mmD m M) (.str s) = some (.int i) := by
  obtain ⟨j, p, h1, h2⟩ := lk_mem h
  refine ⟨p.2, ?_⟩
  show ((kIx (M.map fun p : Cs × Int => (Sum.inr p.1 : Kc)) (.inr s)).bind fun j => (M.map fun p : Cs × Int => D.int p.2)[j]?) = _
  rw [h1]
  show (M.map fun p : Cs × Int => D.int p.2)[j]? = _
  rw [List.getElem?_map, h2]
  rfl
theorem mem_mmD {m : Bool} {M : Mem} {s : Cs} (h : s ∈ M.map Prod.fst) : memD (.str s) (mmD m M) = some true := by
  obtain ⟨j, p, h1, h2⟩ := lk_mem h
  show some (kIx (M.map fun p : Cs × Int => (Sum.inr p.1 : Kc)) (.inr s)).isSome = some true
  rw [h1]
  rfl
theorem same_loop {M : Mem} {N : VEnds} : ∀ (ns : List Cs) (u : Option D), (∀ s ∈ ns, s ∈ M.map Prod.fst) → (∀ u, N.nx [some (mmD false M), some (mmD false M), u]) →
    vForL (vName 2) lb_Lsame_memory0 (ns.map fun s => D.str s) N [some (mmD false M), some (mmD false M), u]
  | [], u, _, q => q u
  | s :: ns, u, h, q => by
    show vForL (vName 2) lb_Lsame_memory0 (D.str s :: ns.map fun s => D.str s) N _
    rw [e_forU lb_Lsame_memory0.eq_1]
    obtain ⟨i, hi⟩ := ix_mem (m := false) (h s List.mem_cons_self)
    simp! only [mm_fz, hi]
    rw [mem_mmD (h s List.mem_cons_self)]
    refine ⟨true, rfl, ?_⟩
    rw [if_neg (by decide)]
    refine c_Lalike rfl (by first | exact plN_int _ _ | rfl) ?_
    simp! only []
    exact same_loop ns _ (fun z hz => h z (List.mem_cons_of_mem _ hz)) q
theorem rd_Lsame_memory : Rd 2 [true, true] 3 sp_Lsame_memory t_Lsame_memory := by
  rintro ds Q Ex hl ⟨M, rfl, h, q⟩
  have q : Q (.bl true) [mmD false M, mmD false M] := q
  have ln : ∀ Q : D → Prop, sLen [mmD false M] Q ↔ Q (.int M.length) := fun Q => by unfold mmD; rw [e_lenK, List.length_map]
  unfold t_Lsame_memory
  simp! only [mm_fz, ln]
  refine ⟨_, rfl, ?_⟩
  simp! only [ln]
  refine ⟨_, _, rfl, ?_⟩
  have e : ((M.map fun p : Cs × Int => (Sum.inr p.1 : Kc)).map keyKD) = (M.map Prod.fst).map fun s => D.str s := by
    rw [List.map_map, List.map_map]
    rfl
  rw [e]
  refine same_loop (M.map Prod.fst) none (fun z hz => hz) fun u => ?_
  simp! only [mm_fz]
  exact q
theorem rd_Lcounting : Rd 4 [true, true, true, true] 6 sp_Lcounting t_Lcounting := by
  rintro ds Q Ex hl ⟨⟨way, x, lim, n⟩, rfl, _, q⟩
  have q : Q (.lst true (fmsD (cntF way x lim n))) [.int way, .str x, opD lim, .int n] := q
  unfold cntF cntB at q
  unfold t_Lcounting
  simp! only [opD_fz]
  by_cases h0 : way = 0
  · rw [if_pos h0] at q
    refine ite_yes h0 ?_
    simpa [fmsD, fmD, opD] using q
  rw [if_neg h0] at q
  refine ite_no h0 ?_
  by_cases h1 : way = 1
  · rw [if_pos h1] at q
    refine ite_yes h1 ?_
    simpa [fmsD, fmD, opD] using q
  rw [if_neg h1] at q
  refine ite_no h1 ?_
  simpa [fmsD, fmD, opD] using q
theorem rngD_succ (k : Nat) : rngD ((k : Int) + 1 - 1) (k + 1) = D.int (k : Int) :: rngD ((k : Int) - 1) k := by
  unfold rngD
  rw [List.range_succ_eq_map, List.map_cons, List.map_map]
  congr 1
  · congr 1; omega
  · refine List.map_congr_left fun i _ => ?_
    show D.int _ = D.int _
    congr 1
    show (k : Int) + 1 - 1 + ((i + 1 : Nat) : Int) * -1 = _
    omega
theorem for_Lspin {z m : D} {W : List D} {v : Option D} {ws : List Bool} {inn : List Fm} (hW : W = ws.map fun b : Bool => D.str (if b = true then cRound else cPart)) {N : VEnds} (q : ∀ u, N.nx [some z, some m, some (.lst false W), u, v, some (.lst false (fmsD (spF 100 ws inn)))]) :
    ∀ (k : Nat) (u : Option D), k ≤ ws.length → vForL (vName 3) lb_Lspin0 (rngD ((k : Int) - 1) k) N [some z, some m, some (.lst false W), u, v, some (.lst false (fmsD (spF (100 + (k : Int)) (ws.drop k) inn)))]
  | 0, u, _ => q u
  | k + 1, u, hk => by
    rw [show (((k + 1 : Nat) : Int) - 1) = (k : Int) + 1 - 1 by omega, rngD_succ, e_forU lb_Lspin0.eq_1]
    have hl : k < ws.length := by omega
    have zW : isFzL W = true := by rw [isFzL_all, hW]; simp [isFz]
    have ex : ((ixN W.length (k : Int)).bind fun j => W[j]?) = some (.str (if ws[k] = true then cRound else cPart)) := by
      rw [hW, List.length_map, ixN_nat hl]
      show (ws.map _)[k]? = _
      rw [List.getElem?_map, List.getElem?_eq_getElem hl]
      rfl
    simp! only [zW, ex, fms_fz, fms_frz]
    have ih := for_Lspin hW q k (some (.int (k : Int))) (by omega)
    rw [List.drop_eq_getElem_cons hl, spF] at ih
    have e5 : (100 : Int) + (k : Int) + 1 = 100 + ((k + 1 : Nat) : Int) := by omega
    rw [e5] at ih
    cases hb : ws[k] with
    | true =>
      rw [hb, if_pos rfl, fmsD, fmsD, fmD] at ih
      exact ih
    | false =>
      rw [hb, if_neg (by decide), fmsD, fmsD, fmD] at ih
      exact ih
theorem rd_Lspin : Rd 2 [true, true] 6 sp_Lspin t_Lspin := by
  rintro ds Q Ex hl ⟨⟨z, m⟩, rfl, h, q⟩
  have h : m < 20 := h
  have q : ∀ ws inn, ws.length = m → SpIn (true :: ws) inn → Q (.lst false (fmsD (spF 100 (true :: ws) inn))) [.int z, .int (m : Int)] := fun ws inn a b => q _ ⟨ws, inn, rfl, a, b⟩
  unfold t_Lspin
  simp! only []
  refine ⟨by omega, by omega, ?_⟩
  rw [Int.toNat_natCast]
  refine lc_rng (i := 3) (f := fun k => D.str (if (pdiv z (1 + (k : Int) * (k : Int)) % 2 = 0) then cRound else cPart)) le_Lspin0.eq_1 (fun k hk P p => ?_) rfl (by omega) ?_
  · have kk : 0 ≤ (k : Int) * (k : Int) := Int.mul_nonneg (by omega) (by omega)
    have kl : (k : Int) * (k : Int) ≤ 100 * 100 := Int.mul_le_mul (by omega) (by omega) (by omega) (by decide)
    have w0 := Int.emod_nonneg (pdiv z (1 + (k : Int) * (k : Int))) (show (2 : Int) ≠ 0 by decide)
    have w1 := Int.emod_lt_of_pos (pdiv z (1 + (k : Int) * (k : Int))) (show (0 : Int) < 2 by decide)
    simp! only []
    refine ⟨(cml_r (by omega)).mpr trivial, cdv_sm (by omega) (by show (1 + (k : Int) * (k : Int)).natAbs < 2 ^ 250; omega), ?_⟩
    obtain ⟨i, hi⟩ := Int.eq_ofNat_of_zero_le w0
    rw [hi] at w1 p ⊢
    have : i = 0 ∨ i = 1 := by omega
    rcases this with rfl | rfl
    · exact ⟨_, rfl, rfl, p⟩
    · exact ⟨_, rfl, rfl, p⟩
  have ew : (List.range m).map (fun k : Nat => D.str (if (pdiv z (1 + (k : Int) * (k : Int)) % 2 = 0) then cRound else cPart)) = ((List.range m).map fun k : Nat => decide (pdiv z (1 + (k : Int) * (k : Int)) % 2 = 0)).map fun b : Bool => D.str (if b = true then cRound else cPart) := by
    rw [List.map_map]
    refine List.map_congr_left fun k _ => ?_
    show D.str _ = D.str (if decide _ = true then _ else _)
    by_cases hh : pdiv z (1 + (k : Int) * (k : Int)) % 2 = 0
    · rw [if_pos hh, if_pos (decide_eq_true hh)]
    · rw [if_neg hh, if_neg (by simpa using hh)]
  rw [ew]
  generalize hws : ((List.range m).map fun k : Nat => decide (pdiv z (1 + (k : Int) * (k : Int)) % 2 = 0)) = ws
  have lw : ws.length = m := by rw [← hws]; simp
  obtain ⟨f, hf⟩ : ∃ f : Bool → D, f = fun b : Bool => D.str (if b = true then cRound else cPart) := ⟨_, rfl⟩
  rw [← hf]
  have zw : ∀ l : List Bool, isFzL (l.map f) = true := fun l => by rw [isFzL_all, hf]; simp [isFz]
  obtain ⟨W, hW⟩ : ∃ W, W = (true :: ws).map f := ⟨_, rfl⟩
  have e1 : D.str [114, 111, 117, 110, 100] :: ws.map f = W := by rw [hW, hf]; rfl
  have z1 : isFzL W = true := by rw [hW]; exact zw _
  have f1 : frzL W = W := frzL_id z1
  have l1 : W.length = m + 1 := by rw [hW, List.length_map, List.length_cons, lw]
  have at_ : ∀ k : Nat, k ≤ m → ∃ b, (true :: ws)[k]? = some b ∧ ((ixN W.length (k : Int)).bind fun j => W[j]?) = some (.str (if b = true then cRound else cPart)) := fun k hk => by
    have hk2 : k < (true :: ws).length := by rw [List.length_cons]; omega
    refine ⟨_, List.getElem?_eq_getElem hk2, ?_⟩
    rw [l1, ixN_nat (by omega)]
    show W[k]? = _
    rw [hW, List.getElem?_map, List.getElem?_eq_getElem hk2, hf]
    rfl
  simp! only [zw, e1, z1, f1]
  have e2 : D.str [114, 111, 117, 110, 100] :: frzL (ws.map f) = W := by rw [frzL_id (zw ws), e1]
  rw [e2]
  refine ⟨by omega, by rw [frzL_id (zw ws)]; exact zw ws, by omega, by omega, ?_⟩
  rw [Int.toNat_natCast, rng0]
  refine lcFilt (i := 3) (p := fun k : Nat => (true :: ws)[k]?.getD false) (f := fun k : Nat => D.int (k : Int)) (g := fun k : Nat => D.int (k : Int)) lt_Lspin1.eq_1 le_Lspin1.eq_1 (List.range (ws.length + 1)) [] (fun k hk P p => ?_) (fun k hk g P p => ?_) rfl (by simp; omega) ?_
  · obtain ⟨b, hb, ex⟩ := at_ k (by have := List.mem_range.mp hk; omega)
    rw [hb] at p
    simp! only [z1, f1, ex]
    cases b
    · exact p
    · exact p
  · simp! only []
    exact p
  rw [List.nil_append]
  generalize hR : (List.range (ws.length + 1)).filter (fun k : Nat => (true :: ws)[k]?.getD false) = R
  have memR : ∀ r ∈ R, (true :: ws)[r]? = some true := fun r hr => by
    rw [← hR, List.mem_filter] at hr
    obtain ⟨h1, h2⟩ := hr
    obtain ⟨b, hb, _⟩ := at_ r (by have := List.mem_range.mp h1; omega)
    rw [hb] at h2
    have h2 : b = true := h2
    rw [hb, h2]
  have r0 : 0 < R.length := by
    have : 0 ∈ R := by rw [← hR, List.mem_filter]; exact ⟨List.mem_range.mpr (by omega), rfl⟩
    exact List.length_pos_of_mem this
  have zR : isFzL (R.map fun k : Nat => D.int (k : Int)) = true := natsD_fz R
  have fR : frzL (R.map fun k : Nat => D.int (k : Int)) = R.map fun k : Nat => D.int (k : Int) := natsD_frz R
  have fin : ∀ inn, SpIn (true :: ws) inn → ∃ i j : Int, ((m : Int) = i ∧ -1 = j) ∧ (-4611686018427387904 ≤ i ∧ i < 4611686018427387904 ∧ -4611686018427387904 ≤ j ∧ j < 4611686018427387904) ∧
      vForL (vName 3) lb_Lspin0 (rngD i (i - j).toNat) { nx := vRet (vVar 5) { nx := fun ε => 2 ≤ List.length ε ∧ Q D.non (finalL [true, true] [D.int z, D.int (m : Int)] ε), rt := fun r ε => 2 ≤ List.length ε ∧ Q r (finalL [true, true] [D.int z, D.int (m : Int)] ε), rx := fun cls row ε => 2 ≤ List.length ε ∧ Ex cls row (finalL [true, true] [D.int z, D.int (m : Int)] ε) }, rt := fun r ε => 2 ≤ List.length ε ∧ Q r (finalL [true, true] [D.int z, D.int (m : Int)] ε), rx := fun cls row ε => 2 ≤ List.length ε ∧ Ex cls row (finalL [true, true] [D.int z, D.int (m : Int)] ε) }
        [some (D.int z), some (D.int (m : Int)), some (D.lst false W), none, some (D.lst false (R.map fun k : Nat => D.int (k : Int))), some (D.lst false (fmsD inn))] := fun inn hin => by
    refine ⟨_, _, ⟨rfl, rfl⟩, ⟨by omega, by omega, by omega, by omega⟩, ?_⟩
    have e3 : ((m : Int) - -1).toNat = m + 1 := by omega
    have e4 : (m : Int) = ((m + 1 : Nat) : Int) - 1 := by omega
    rw [e3]
    have := for_Lspin (z := .int z) (m := .int (m : Int)) (W := W) (v := some (.lst false (R.map fun k : Nat => D.int (k : Int)))) (ws := true :: ws) (inn := inn) (by rw [hW, hf]) (N := { nx := vRet (vVar 5) { nx := fun ε => 2 ≤ List.length ε ∧ Q D.non (finalL [true, true] [D.int z, D.int (m : Int)] ε), rt := fun r ε => 2 ≤ List.length ε ∧ Q r (finalL [true, true] [D.int z, D.int (m : Int)] ε), rx := fun cls row ε => 2 ≤ List.length ε ∧ Ex cls row (finalL [true, true] [D.int z, D.int (m : Int)] ε) }, rt := fun r ε => 2 ≤ List.length ε ∧ Q r (finalL [true, true] [D.int z, D.int (m : Int)] ε), rx := fun cls row ε => 2 ≤ List.length ε ∧ Ex cls row (finalL [true, true] [D.int z, D.int (m : Int)] ε) }) (fun u => by
      simp! only [fms_fz]
      exact q ws inn lw hin) (m + 1) none (by rw [List.length_cons]; omega)
    rw [show (true :: ws).drop (m + 1) = [] by rw [List.drop_eq_nil_iff]; rw [List.length_cons]; omega, spF, ← e4] at this
    exact this
  simp! only [zR, fR, f1]
  have e0 : fmsD [] = [] := by rw [fmsD]
  split
  · have o : ∃ r ∈ R, ((ixN R.length (pmod (z / 3) (R.length : Int))).bind fun j => (R.map fun k : Nat => D.int (k : Int))[j]?) = some (.int (r : Int)) := by
      rw [pmod_pos (by omega)]
      have h0 := Int.emod_nonneg (z / 3) (show (R.length : Int) ≠ 0 by omega)
      have h1 := Int.emod_lt_of_pos (z / 3) (show (0 : Int) < R.length by omega)
      obtain ⟨i, hi⟩ := Int.eq_ofNat_of_zero_le h0
      rw [hi] at h1 ⊢
      have hl : i < R.length := by omega
      refine ⟨R[i], List.getElem_mem hl, ?_⟩
      rw [ixN_nat hl]
      show (R.map fun k : Nat => D.int (k : Int))[i]? = _
      rw [List.getElem?_map, List.getElem?_eq_getElem hl]
      rfl
    obtain ⟨r, hr, er⟩ := o
    refine ⟨by omega, _, er, rfl, ?_⟩
    simp! only [zR, fR, f1]
    refine ite_no (by omega) ?_
    have := fin [.again (100 + (r : Int))] (.inr (.inl ⟨r, memR r hr, rfl⟩))
    rw [fmsD, fmsD, fmD] at this
    exact this
  · split
    · split
      · refine ⟨by omega, ?_⟩
        rw [pmod_pos (by omega)]
        have h0 := Int.emod_nonneg (z / 3) (show (m : Int) ≠ 0 by omega)
        have h1 := Int.emod_lt_of_pos (z / 3) (show (0 : Int) < m by omega)
        obtain ⟨i, hi⟩ := Int.eq_ofNat_of_zero_le h0
        rw [hi] at h1 ⊢
        have := fin [.leave (101 + (i : Int))] (.inr (.inr ⟨i, by rw [List.length_cons]; omega, rfl⟩))
        rw [fmsD, fmsD, fmD] at this
        exact this
      · have := fin [] (.inl rfl)
        rw [fmsD] at this
        exact this
    · have := fin [] (.inl rfl)
      rw [fmsD] at this
      exact this
theorem rd_Llast : Rd 3 [true, true, true] 3 sp_Llast t_Llast := by
  rintro ds Q Ex hl ⟨⟨way, x, S⟩, rfl, _, q⟩
  have q : ∀ m, Q (.lst m (fmsD (lastF way x S))) [.int way, .str x, .lst false (fmsD S)] := fun m => q _ ⟨m, rfl⟩
  unfold lastF at q
  unfold t_Llast
  simp! only [fms_fz]
  by_cases h0 : way = 0
  · rw [if_pos h0] at q
    refine ite_yes h0 ?_
    simpa [fmsD, fmD, opD] using q true
  rw [if_neg h0] at q
  refine ite_no h0 ?_
  by_cases h1 : way = 1
  · rw [if_pos h1] at q
    refine ite_yes h1 ?_
    simpa [fmsD, fmD, opD] using q true
  rw [if_neg h1] at q
  refine ite_no h1 ?_
  by_cases h2 : way = 2
  · rw [if_pos h2] at q
    refine ite_yes h2 ?_
    simpa [fmsD, fmD, opD] using q true
  rw [if_neg h2] at q
  refine ite_no h2 ?_
  by_cases h3 : way = 3
  · rw [if_pos h3] at q
    refine ite_yes h3 ?_
    have q := q true
    rw [fmsD, fmsD, fmD] at q
    exact q
  rw [if_neg h3] at q
  refine ite_no h3 ?_
  exact q false
theorem for_Lwithin {F : List Fm} {z : Int} {a : Option D} {N : VEnds} : ∀ (m k : Nat) (G : List Fm) (u : Option D), Wi F k G → G.length < 1000 → k + m < 100 → (∀ G u, Wi F (k + m) G → N.nx [some (.lst false (fmsD G)), some (.int z), a, u]) → vForL (vName 3) lb_Lwithin0 (natsD (List.range' k m)) N [some (.lst false (fmsD G)), some (.int z), a, u]
  | 0, k, G, u, w, h, _, q => q G u w
  | m + 1, k, G, u, w, h, hk, q => by
    show vForL (vName 3) lb_Lwithin0 (D.int (k : Int) :: natsD (List.range' (k + 1) m)) N _
    rw [e_forU lb_Lwithin0.eq_1]
    have lf : (fmsD G).length = G.length := by rw [fmsD_map, List.length_map]
    have nx : ∀ G u, Wi F (k + 1) G → G.length < 1000 → vForL (vName 3) lb_Lwithin0 (natsD (List.range' (k + 1) m)) N [some (.lst false (fmsD G)), some (.int z), a, u] := fun G u w h => for_Lwithin m (k + 1) G u w h (by omega) fun G u w => q G u (by rw [show k + (m + 1) = k + 1 + m by omega]; exact w)
    simp! only [fms_fz]
    have kk : 0 ≤ (k : Int) * (k : Int) := Int.mul_nonneg (by omega) (by omega)
    have kl : (k : Int) * (k : Int) ≤ 100 * 100 := Int.mul_le_mul (by omega) (by omega) (by omega) (by decide)
    refine ⟨(cml_r (by omega)).mpr trivial, cdv_sm (by omega) (by show (1 + (k : Int) * (k : Int)).natAbs < 2 ^ 250; omega), ?_⟩
    split
    · have w2 := w.part
      have e : fmsD [Fm.part (1000 + (k : Int)) G] = [D.tup [.str cPart, .int (1000 + (k : Int)), .lst false (fmsD G)]] := by rw [fmsD, fmsD, fmD]
      rw [← e]
      exact nx _ _ w2 (show 1 < 1000 by decide)
    · refine ⟨by omega, ?_⟩
      have w2 := w.round
      have e0 : fmsD G ++ [D.tup [.str [108, 101, 97, 118, 101], .int (1000 + (k : Int))]] = fmsD (G ++ [.leave (1000 + (k : Int))]) := by rw [← fms_one, fmD]
      have e : fmsD [Fm.round (1000 + (k : Int)) (G ++ [.leave (1000 + (k : Int))])] = [D.tup [.str [114, 111, 117, 110, 100], .int (1000 + (k : Int)), .lst false (fmsD (G ++ [.leave (1000 + (k : Int))]))]] := by rw [fmsD, fmsD, fmD]
      rw [e0, fms_frz, ← e]
      exact nx _ _ w2 (show 1 < 1000 by decide)
theorem rd_Lwithin : Rd 3 [false, true, true] 4 sp_Lwithin t_Lwithin := by
  rintro ds Q Ex hl ⟨⟨F, z, m⟩, rfl, ⟨h1, h2⟩, q⟩
  have h1 : m < 100 := h1
  have h2 : F.length < 1000 := h2
  have q : ∀ G, Wi F m G → Q (.lst false (fmsD G)) [.lst false (fmsD F), .int z, .int (m : Int)] := fun G w => q _ ⟨G, rfl, w⟩
  unfold t_Lwithin
  simp! only [fms_fz]
  refine ⟨by omega, by omega, ?_⟩
  rw [rngN, Int.toNat_natCast, List.range_eq_range']
  refine for_Lwithin m 0 F none .zero h2 (by omega) fun G u w => ?_
  rw [Nat.zero_add] at w
  simp! only [fms_fz]
  exact q G w
theorem ded_even {x : Cs} {a : Int} {n k : Nat} (h : k % 2 = 0) : dedK x a n k = .sum x (a + (k / 2 : Nat)) [43] 1 (a + (k / 2 : Nat) + 1) := by unfold dedK; rw [if_pos h]
theorem ded_odd {x : Cs} {a : Int} {n k : Nat} (h : ¬k % 2 = 0) : dedK x a n k = .test (a + (k / 2 : Nat) + 1) [60] (a + (n : Nat)) (decide (a + (k / 2 : Nat) + 1 < a + (n : Nat))) := by unfold dedK; rw [if_neg h]
theorem deds_loop {x : Cs} {a : Int} {n m : Nat} {N : VEnds} (hx : True) : ∀ (ks : List Nat) (acc : List Dd) (u v : Option D), acc.length + ks.length < 100000 →
    (∀ u v, N.nx [some (.str x), some (.int a), some (.int (n : Int)), some (.int (m : Int)), some (.lst true ((acc ++ ks.map (dedK x a n)).map dedD)), u, v]) →
    vForL (vName 5) lb_Ldeeds0 (natsD ks) N [some (.str x), some (.int a), some (.int (n : Int)), some (.int (m : Int)), some (.lst true (acc.map dedD)), u, v]
  | [], acc, u, v, _, q => by
    have := q u v
    rw [List.map_nil, List.append_nil] at this
    exact this
  | k :: ks, acc, u, v, hl, q => by
    show vForL (vName 5) lb_Ldeeds0 (D.int (k : Int) :: natsD ks) N _
    rw [e_forU lb_Ldeeds0.eq_1]
    have hl : acc.length + (ks.length + 1) < 100000 := hl
    have e0 : (k : Int) / 2 = ((k / 2 : Nat) : Int) := rfl
    have e1 : (k : Int) % 2 = ((k % 2 : Nat) : Int) := rfl
    simp! only [e0, e1]
    have step : ∀ u v, vForL (vName 5) lb_Ldeeds0 (natsD ks) N [some (.str x), some (.int a), some (.int (n : Int)), some (.int (m : Int)), some (.lst true (acc.map dedD ++ [dedD (dedK x a n k)])), u, v] := fun u v => by
      have e : acc.map dedD ++ [dedD (dedK x a n k)] = (acc ++ [dedK x a n k]).map dedD := by rw [List.map_append]; rfl
      rw [e]
      refine deds_loop hx ks _ u v (by rw [List.length_append, List.length_singleton]; omega) fun u v => ?_
      rw [List.append_assoc]
      exact q u v
    by_cases h : k % 2 = 0
    · rw [if_pos (by omega)]
      refine ⟨by omega, ?_⟩
      have e : a + ((k / 2 : Nat) : Int) + 1 - 1 = a + ((k / 2 : Nat) : Int) := by omega
      rw [ded_even h] at step
      rw [e]
      exact step _ _
    · rw [if_neg (by omega)]
      refine ⟨by omega, ?_⟩
      rw [ded_odd h] at step
      exact step _ _
theorem rd_Ldeeds : Rd 4 [true, true, true, true] 7 sp_Ldeeds t_Ldeeds := by
  rintro ds Q Ex hl ⟨⟨x, a, n, m⟩, rfl, ⟨h1, h2⟩, q⟩
  have h1 : n < 10000 := h1
  have h2 : m < 10000 := h2
  have q : Q (.lst true ((dedsF x a n m).map dedD)) [.str x, .int a, .int (n : Int), .int (m : Int)] := q
  unfold t_Ldeeds
  simp! only []
  refine ⟨by omega, by omega, ?_⟩
  have e : (min (2 * (n : Int)) (m : Int)).toNat = min (2 * n) m := by omega
  rw [e, rngN]
  refine deds_loop trivial (List.range (min (2 * n) m)) [] none none (by simp; omega) fun u v => ?_
  rw [List.nil_append]
  simp! only []
  exact q
theorem rd_Lword : Rd 3 [true, true, true] 3 sp_Lword t_Lword := by
  rintro ds Q Ex hl ⟨⟨way, n, m⟩, rfl, h, q⟩
  have h : n < 10000 := h
  have q : Q (.str (wordG way n m)) [.int way, .int (n : Int), .int (m : Int)] := q
  unfold t_Lword
  simp! only []
  unfold wordG at q
  by_cases h1 : 3 < way
  · rw [if_pos h1]; rw [if_pos (.inl h1)] at q; exact q
  rw [if_neg h1]
  by_cases h2 : m < 2 * n
  · rw [if_pos (by omega)]; rw [if_pos (.inr h2)] at q; exact q
  rw [if_neg (by omega)]
  rw [if_neg (by omega)] at q
  by_cases h3 : way < 2
  · rw [if_pos h3] at q ⊢; exact q
  rw [if_neg h3] at q ⊢
  by_cases h4 : 2 * n < m
  · have e : decide (2 * (n : Int) < (m : Int)) = true := decide_eq_true (by omega)
    rw [if_pos h4] at q
    rw [e]
    exact .inr ⟨_, rfl, _, rfl, rfl, q⟩
  · have e : decide (2 * (n : Int) < (m : Int)) = false := decide_eq_false (by omega)
    rw [if_neg h4] at q
    rw [e]
    exact .inr ⟨_, rfl, _, rfl, rfl, q⟩
theorem putM_put {M : Mem} {s : Cs} {v w : Int} : putM (putM M s v) s w = putM M s w := by
  induction M with
  | nil => simp [putM]
  | cons p M ih =>
    obtain ⟨t, u⟩ := p
    by_cases h : t = s
    · subst h; simp [putM]
    · simp [putM, h, ih]
def memS (M0 : Mem) (x : Cs) (a : Int) (k : Nat) : Mem := if k = 0 then M0 else putM M0 x (a + ((k + 1) / 2 : Nat))
def doneS (x : Cs) (a : Int) (n k : Nat) : List Dd := (List.range k).map (dedK x a n)
theorem doneS_len {x : Cs} {a : Int} {n k : Nat} : (doneS x a n k).length = k := by simp [doneS]
theorem doneS_succ {x : Cs} {a : Int} {n k : Nat} : doneS x a n (k + 1) = doneS x a n k ++ [dedK x a n k] := by simp [doneS, List.range_succ]
theorem memS_put {M0 : Mem} {x : Cs} {a : Int} {k : Nat} {v : Int} : putM (memS M0 x a k) x v = putM M0 x v := by
  unfold memS
  split
  · rfl
  · exact putM_put
/-- counting -/
structure Cn (M0 : Mem) (x : Cs) (a : Int) (n : Nat) (lim : Opd) : Prop where
  look : lookM M0 x = a
  lim : ∀ v, worthM (putM M0 x v) lim = a + (n : Nat)
  n0 : 0 < n
  n1 : n ≤ 1500
def stS (M0 : Mem) (x : Cs) (a : Int) (n : Nat) (mo : Int) (k : Nat) : Dds := ⟨memS M0 x a k, mo, doneS x a n k⟩
section
variable {M0 : Mem} {x : Cs} {a : Int} {n : Nat} {lim : Opd} {mo : Int} {K : Nat}
theorem stS_len (k : Nat) : (stS M0 x a n mo k).done.length = k := doneS_len
theorem memS_look (h : Cn M0 x a n lim) (k : Nat) : lookM (memS M0 x a k) x = a + ((k + 1) / 2 : Nat) := by
  unfold memS
  split
  · next e => subst e; rw [h.look]; simp
  · rw [lookM_put, if_pos rfl]
theorem full_on {k : Nat} {f : Fm} (hf : (∃ y b s c, f = .sum y b s c) ∨ ∃ b s c Y Z e, f = .choice b s c Y Z e) (hm : mo ≤ (k : Int)) : runFm K f (stS M0 x a n mo k) = (stS M0 x a n mo k, some .on) := by
  have e : (stS M0 x a n mo k).most ≤ ((stS M0 x a n mo k).done.length : Int) := by rw [stS_len]; exact hm
  rcases hf with ⟨y, b, s, c, rfl⟩ | ⟨b, s, c, Y, Z, e2, rfl⟩
  · rw [runFm]; unfold sumR; rw [if_pos e]
  · rw [runFm, if_pos e]
theorem grow_step (h : Cn M0 x a n lim) (i : Nat) (hm : ¬mo ≤ ((2 * i : Nat) : Int)) : runFm K (.sum x (.inr x) [43] (.inl 1)) (stS M0 x a n mo (2 * i)) = (stS M0 x a n mo (2 * i + 1), some .nil) := by
  have e : ¬(stS M0 x a n mo (2 * i)).most ≤ ((stS M0 x a n mo (2 * i)).done.length : Int) := by rw [stS_len]; exact hm
  have l := memS_look h (2 * i)
  have e1 : (2 * i + 1) / 2 = i := by omega
  have e2 : (2 * i + 1 + 1) / 2 = i + 1 := by omega
  rw [e1] at l
  rw [runFm]
  unfold sumR
  rw [if_neg e]
  have wx : worthM (stS M0 x a n mo (2 * i)).mem (.inr x) = a + (i : Nat) := l
  have w1 : worthM (stS M0 x a n mo (2 * i)).mem (.inl 1) = 1 := rfl
  have mv : madeV [43] (a + (i : Nat)) 1 = some (a + (i : Nat) + 1) := by unfold madeV; rw [if_pos rfl]
  rw [wx, w1, mv]
  show ((⟨putM (memS M0 x a (2 * i)) x (a + (i : Nat) + 1), mo, doneS x a n (2 * i) ++ [.sum x (a + (i : Nat)) [43] 1 (a + (i : Nat) + 1)]⟩ : Dds), some Gs.nil) = _
  have ed : dedK x a n (2 * i) = .sum x (a + (i : Nat)) [43] 1 (a + (i : Nat) + 1) := by rw [ded_even (by omega), show 2 * i / 2 = i by omega]
  have em : memS M0 x a (2 * i + 1) = putM M0 x (a + (i : Nat) + 1) := by
    unfold memS
    rw [if_neg (by omega), e2, show a + ((i + 1 : Nat) : Int) = a + (i : Nat) + 1 by omega]
  unfold stS
  rw [memS_put, em, doneS_succ, ed]
theorem test_step (h : Cn M0 x a n lim) (i : Nat) (hm : ¬mo ≤ ((2 * i + 1 : Nat) : Int)) (Y Z : List Fm) : runFm K (.choice (.inr x) [60] lim Y Z true) (stS M0 x a n mo (2 * i + 1)) = runLs K (if i + 1 < n then Y else Z) (stS M0 x a n mo (2 * i + 2)) := by
  have e : ¬(stS M0 x a n mo (2 * i + 1)).most ≤ ((stS M0 x a n mo (2 * i + 1)).done.length : Int) := by rw [stS_len]; exact hm
  have e2 : (2 * i + 1 + 1) / 2 = i + 1 := by omega
  have l := memS_look h (2 * i + 1)
  rw [e2] at l
  have em : memS M0 x a (2 * i + 1) = putM M0 x (a + ((i + 1 : Nat) : Int)) := by
    unfold memS
    rw [if_neg (by omega), e2]
  have em2 : memS M0 x a (2 * i + 2) = memS M0 x a (2 * i + 1) := by
    unfold memS
    rw [if_neg (by omega), if_neg (by omega), e2, show (2 * i + 2 + 1) / 2 = i + 1 by omega]
  have wx : worthM (stS M0 x a n mo (2 * i + 1)).mem (.inr x) = a + ((i + 1 : Nat) : Int) := l
  have wl : worthM (stS M0 x a n mo (2 * i + 1)).mem lim = a + (n : Nat) := by
    show worthM (memS M0 x a (2 * i + 1)) lim = _
    rw [em]; exact h.lim _
  have hv : holdsV [60] (a + ((i + 1 : Nat) : Int)) (a + (n : Nat)) = decide (i + 1 < n) := by
    unfold holdsV
    rw [if_pos rfl, Bool.eq_iff_iff, decide_eq_true_iff, decide_eq_true_iff]; omega
  have ed : dedK x a n (2 * i + 1) = .test (a + ((i + 1 : Nat) : Int)) [60] (a + (n : Nat)) (decide (i + 1 < n)) := by
    rw [ded_odd (by omega), show (2 * i + 1) / 2 = i by omega]
    have e5 : a + (i : Nat) + 1 = a + ((i + 1 : Nat) : Int) := by omega
    have e6 : decide (a + (i : Nat) + 1 < a + (n : Nat)) = decide (i + 1 < n) := by rw [Bool.eq_iff_iff, decide_eq_true_iff, decide_eq_true_iff]; omega
    rw [e6, e5]
  have et : testD (stS M0 x a n mo (2 * i + 1)) (.inr x) [60] lim = stS M0 x a n mo (2 * i + 2) := by
    unfold testD
    rw [wx, wl, hv]
    show (⟨memS M0 x a (2 * i + 1), mo, doneS x a n (2 * i + 1) ++ [_]⟩ : Dds) = ⟨memS M0 x a (2 * i + 2), mo, doneS x a n (2 * i + 1 + 1)⟩
    rw [em2, doneS_succ (k := 2 * i + 1), ed]
  rw [runFm, if_neg e, wx, wl, hv, et]
  by_cases hi : i + 1 < n
  · rw [if_pos (decide_eq_true hi), if_pos hi]
  · rw [if_neg (by simpa using hi), if_pos rfl, if_neg hi]
/-- what a turn of the body leaves -/
def turnG (way : Int) (i n : Nat) (r : Int) : Gs := if i + 1 < n then (if way = 0 then .again r else .nil) else .leave r
theorem turn_body (h : Cn M0 x a n lim) (way : Int) (r : Int) (i : Nat) : runLs K (cntB way x lim r) (stS M0 x a n mo (2 * i)) =
    if mo ≤ ((2 * i : Nat) : Int) then (stS M0 x a n mo (2 * i), some .on) else if mo ≤ ((2 * i + 1 : Nat) : Int) then (stS M0 x a n mo (2 * i + 1), some .on) else (stS M0 x a n mo (2 * i + 2), some (turnG way i n r)) := by
  have nil : ∀ d, runLs K [] d = (d, some .nil) := fun d => by rw [runLs]
  have two : ∀ (Y Z F : List Fm), runLs K (.sum x (.inr x) [43] (.inl 1) :: .choice (.inr x) [60] lim Y Z true :: F) (stS M0 x a n mo (2 * i)) =
      if mo ≤ ((2 * i : Nat) : Int) then (stS M0 x a n mo (2 * i), some .on) else if mo ≤ ((2 * i + 1 : Nat) : Int) then (stS M0 x a n mo (2 * i + 1), some .on) else thenR (runLs K (if i + 1 < n then Y else Z) (stS M0 x a n mo (2 * i + 2))) fun d => runLs K F d := fun Y Z F => by
    rw [runLs]
    by_cases h0 : mo ≤ ((2 * i : Nat) : Int)
    · rw [if_pos h0, full_on (.inl ⟨_, _, _, _, rfl⟩) h0]; rfl
    rw [if_neg h0, grow_step h i h0]
    show runLs K (.choice (.inr x) [60] lim Y Z true :: F) (stS M0 x a n mo (2 * i + 1)) = _
    rw [runLs]
    by_cases h1 : mo ≤ ((2 * i + 1 : Nat) : Int)
    · rw [if_pos h1, full_on (.inr ⟨_, _, _, _, _, _, rfl⟩) h1]; rfl
    rw [if_neg h1, test_step h i h1]
  have lv : ∀ (s : Int) d, runLs K [.leave s] d = (d, some (.leave s)) := fun s d => by rw [runLs, runFm]; rfl
  have ag : ∀ (s : Int) d, runLs K [.again s] d = (d, some (.again s)) := fun s d => by rw [runLs, runFm]; rfl
  unfold cntB turnG
  by_cases w0 : way = 0
  · rw [if_pos w0, two]
    by_cases h0 : mo ≤ ((2 * i : Nat) : Int)
    · rw [if_pos h0, if_pos h0]
    rw [if_neg h0, if_neg h0]
    by_cases h1 : mo ≤ ((2 * i + 1 : Nat) : Int)
    · rw [if_pos h1, if_pos h1]
    rw [if_neg h1, if_neg h1]
    by_cases hi : i + 1 < n
    · rw [if_pos hi, if_pos hi, if_pos w0, ag]; rfl
    · rw [if_neg hi, if_neg hi, nil]
      show runLs K [.leave r] _ = _
      rw [lv]
  rw [if_neg w0]
  by_cases w1 : way = 1
  · rw [if_pos w1, two]
    by_cases h0 : mo ≤ ((2 * i : Nat) : Int)
    · rw [if_pos h0, if_pos h0]
    rw [if_neg h0, if_neg h0]
    by_cases h1 : mo ≤ ((2 * i + 1 : Nat) : Int)
    · rw [if_pos h1, if_pos h1]
    rw [if_neg h1, if_neg h1]
    by_cases hi : i + 1 < n
    · rw [if_pos hi, if_pos hi, if_neg w0, nil]
      show runLs K [] _ = _
      rw [nil]
    · rw [if_neg hi, if_neg hi, lv]; rfl
  rw [if_neg w1, runLs, runFm, two]
  by_cases h0 : mo ≤ ((2 * i : Nat) : Int)
  · rw [if_pos h0, if_pos h0]; rfl
  rw [if_neg h0, if_neg h0]
  by_cases h1 : mo ≤ ((2 * i + 1 : Nat) : Int)
  · rw [if_pos h1, if_pos h1]; rfl
  rw [if_neg h1, if_neg h1]
  by_cases hi : i + 1 < n
  · rw [if_pos hi, if_pos hi, if_neg w0, lv]
    show thenR (if r + 1 = r + 1 then (stS M0 x a n mo (2 * i + 2), some .nil) else _) _ = _
    rw [if_pos rfl]
    show runLs K [] _ = _
    rw [nil]
  · rw [if_neg hi, if_neg hi, nil]
    show thenR (partR (r + 1) (runLs K [.leave r] _)) _ = _
    rw [lv]
    show thenR (if r = r + 1 then (stS M0 x a n mo (2 * i + 2), some .nil) else (stS M0 x a n mo (2 * i + 2), some (.leave r))) _ = _
    rw [if_neg (by omega)]
    rfl
theorem loop_cnt (h : Cn M0 x a n lim) (way r : Int) {m : Nat} (hmo : mo = (m : Int)) : ∀ (j i k : Nat), i + j = n → 0 < j → j < k → loopR (fun d => runLs K (cntB way x lim r) d) r k (stS M0 x a n mo (2 * i)) = if m < 2 * n then (stS M0 x a n mo (max m (2 * i)), some .on) else (stS M0 x a n mo (2 * n), some .nil)
  | 0, i, k, _, h0, _ => absurd h0 (by omega)
  | j + 1, i, 0, _, _, hk => absurd hk (by omega)
  | j + 1, i, k + 1, hi, _, hk => by
    have tb := turn_body (K := K) (mo := mo) h way r i
    have ne2 : (stS M0 x a n mo (2 * i + 2)).done.length ≠ (stS M0 x a n mo (2 * i)).done.length := by rw [stS_len, stS_len]; omega
    rw [loopR]
    by_cases h0 : mo ≤ ((2 * i : Nat) : Int)
    · rw [if_pos h0] at tb
      simp only [tb]
      rw [if_pos (by omega), show max m (2 * i) = 2 * i by omega]
    rw [if_neg h0] at tb
    by_cases h1 : mo ≤ ((2 * i + 1 : Nat) : Int)
    · rw [if_pos h1] at tb
      simp only [tb]
      rw [if_pos (by omega), show max m (2 * i) = 2 * i + 1 by omega]
    rw [if_neg h1] at tb
    unfold turnG at tb
    by_cases hj : i + 1 < n
    · rw [if_pos hj] at tb
      have ih := loop_cnt h way r hmo j (i + 1) k (by omega) (by omega) (by omega)
      rw [show max m (2 * (i + 1)) = max m (2 * i) by omega] at ih
      by_cases w0 : way = 0
      · rw [if_pos w0] at tb
        simp only [tb, if_true]
        rw [if_neg ne2]
        exact ih
      · rw [if_neg w0] at tb
        simp only [tb]
        rw [if_neg ne2]
        exact ih
    · rw [if_neg hj] at tb
      simp only [tb, if_true]
      have e : 2 * i + 2 = 2 * n := by omega
      rw [if_neg (by omega), e]
theorem run_cnt (h : Cn M0 x a n lim) (way r : Int) {m : Nat} : runLs 4000 (cntF way x lim r) ⟨M0, (m : Int), []⟩ = if m < 2 * n then (stS M0 x a n (m : Int) m, some .on) else (stS M0 x a n (m : Int) (2 * n), some .nil) := by
  unfold cntF
  have e0 : (⟨M0, (m : Int), []⟩ : Dds) = stS M0 x a n (m : Int) (2 * 0) := rfl
  have := h.n1
  rw [runLs, runFm, e0, loop_cnt h way r rfl n 0 4000 (by omega) h.n0 (by omega), show max m (2 * 0) = m by omega]
  split
  · rfl
  · show runLs 4000 [] _ = _
    rw [runLs]
end
/-- a spin does no deeds and does not end -/
theorem spin_in {K : Nat} (hK : 0 < K) {d : Dds} {W : List Bool} {inn : List Fm} (hin : SpIn W inn) : ∀ (ws : List Bool) (k : Nat), W.drop k = ws → k ≤ W.length →
    ∃ g, runLs K (spF (100 + (k : Int)) ws inn) d = (d, some g) ∧ (g = .nil ∨ g = .on ∨ (∃ r : Nat, r < k ∧ W[r]? = some true ∧ g = .again (100 + (r : Int))) ∨ ∃ j : Nat, j + 1 < k ∧ g = .leave (101 + (j : Int)))
  | [], k, e, hk => by
    have hl : W.length ≤ k := List.drop_eq_nil_iff.mp e
    rw [spF]
    rcases hin with rfl | ⟨r, hr, rfl⟩ | ⟨j, hj, rfl⟩
    · exact ⟨.nil, by rw [runLs], .inl rfl⟩
    · exact ⟨.again (100 + (r : Int)), by rw [runLs, runFm]; rfl, .inr (.inr (.inl ⟨r, by have := (List.getElem?_eq_some_iff.mp hr).1; omega, hr, rfl⟩))⟩
    · exact ⟨.leave (101 + (j : Int)), by rw [runLs, runFm]; rfl, .inr (.inr (.inr ⟨j, by omega, rfl⟩))⟩
  | w :: ws, k, e, hk => by
    have hl : k < W.length := by
      apply Classical.byContradiction
      intro z
      rw [List.drop_eq_nil_iff.mpr (by omega)] at e
      cases e
    have e2 : W.drop (k + 1) = ws := by
      have := List.drop_eq_getElem_cons hl
      rw [e] at this
      exact (List.cons.inj this).2.symm
    have ew : W[k]? = some w := by
      have := List.drop_eq_getElem_cons hl
      rw [e] at this
      rw [List.getElem?_eq_getElem hl, (List.cons.inj this).1]
    obtain ⟨g, hg, cs⟩ := spin_in hK hin ws (k + 1) e2 (by omega)
    rw [show (100 : Int) + ((k + 1 : Nat) : Int) = 100 + (k : Int) + 1 by omega] at hg
    obtain ⟨K', rfl⟩ : ∃ K', K = K' + 1 := ⟨K - 1, by omega⟩
    rw [spF]
    have lp : ∀ (n : Int) (g' : Gs), loopR (fun d => runLs (K' + 1) (spF (100 + (k : Int) + 1) ws inn) d) n (K' + 1) d = (match ((d, some g) : Rs) with
      | (d', none) => (d', none)
      | (d', some .nil) => if d'.done.length = d.done.length then (d', some .on) else loopR (fun d => runLs (K' + 1) (spF (100 + (k : Int) + 1) ws inn) d) n K' d'
      | (d', some (.leave m)) => if m = n then (d', some .nil) else (d', some (.leave m))
      | (d', some (.again m)) => if m = n then (if d'.done.length = d.done.length then (d', some .on) else loopR (fun d => runLs (K' + 1) (spF (100 + (k : Int) + 1) ws inn) d) n K' d') else (d', some (.again m))
      | (d', some .fin) => (d', some .fin)
      | (d', some .on) => (d', some .on)) := fun n g' => by rw [← hg]; rfl
    have one : ∀ (f : Fm) (g : Gs), runFm (K' + 1) f d = (d, some g) → runLs (K' + 1) [f] d = (d, some g) := fun f g h => by
      rw [runLs, h]
      cases g <;> first | rfl | (show runLs (K' + 1) [] d = _; rw [runLs])
    cases w with
    | true =>
      rw [if_pos rfl]
      rcases cs with rfl | rfl | ⟨r, hr, hw, rfl⟩ | ⟨j, hj, rfl⟩
      · exact ⟨.on, one _ _ (by rw [runFm, lp _ .nil]; simp only [if_true]), .inr (.inl rfl)⟩
      · exact ⟨.on, one _ _ (by rw [runFm, lp _ .nil]), .inr (.inl rfl)⟩
      · by_cases hrk : r = k
        · subst hrk
          exact ⟨.on, one _ _ (by rw [runFm, lp _ .nil]; simp only [if_true]), .inr (.inl rfl)⟩
        · refine ⟨.again (100 + (r : Int)), one _ _ ?_, .inr (.inr (.inl ⟨r, by omega, hw, rfl⟩))⟩
          rw [runFm, lp _ .nil]; simp only []
          rw [if_neg (by omega)]
      · by_cases hjk : j + 1 = k
        · refine ⟨.nil, one _ _ ?_, .inl rfl⟩
          rw [runFm, lp _ .nil]; simp only []
          rw [if_pos (by omega)]
        · refine ⟨.leave (101 + (j : Int)), one _ _ ?_, .inr (.inr (.inr ⟨j, by omega, rfl⟩))⟩
          rw [runFm, lp _ .nil]; simp only []
          rw [if_neg (by omega)]
    | false =>
      rw [if_neg (by decide)]
      rcases cs with rfl | rfl | ⟨r, hr, hw, rfl⟩ | ⟨j, hj, rfl⟩
      · exact ⟨.nil, one _ _ (by rw [runFm, hg]; rfl), .inl rfl⟩
      · exact ⟨.on, one _ _ (by rw [runFm, hg]; rfl), .inr (.inl rfl)⟩
      · have hrk : r ≠ k := fun z => by subst z; rw [ew] at hw; cases hw
        exact ⟨.again (100 + (r : Int)), one _ _ (by rw [runFm, hg]; rfl), .inr (.inr (.inl ⟨r, by omega, hw, rfl⟩))⟩
      · by_cases hjk : j + 1 = k
        · refine ⟨.nil, one _ _ ?_, .inl rfl⟩
          rw [runFm, hg]
          show (if (101 + (j : Int)) = 100 + (k : Int) then _ else _) = _
          rw [if_pos (by omega)]
        · refine ⟨.leave (101 + (j : Int)), one _ _ ?_, .inr (.inr (.inr ⟨j, by omega, rfl⟩))⟩
          rw [runFm, hg]
          show (if (101 + (j : Int)) = 100 + (k : Int) then _ else _) = _
          rw [if_neg (by omega)]
theorem spin_on {d : Dds} {ws : List Bool} {inn : List Fm} (hin : SpIn (true :: ws) inn) : runLs 4000 (spF 100 (true :: ws) inn) d = (d, some .on) := by
  obtain ⟨g, hg, cs⟩ := spin_in (K := 4000) (d := d) (by decide) hin ws 1 rfl (by simp)
  rw [spF, if_pos rfl, runLs, runFm, loopR]
  have hg : runLs 4000 (spF (100 + 1) ws inn) d = (d, some g) := hg
  rcases cs with rfl | rfl | ⟨r, hr, hw, rfl⟩ | ⟨j, hj, rfl⟩
  · simp only [hg, if_true]; rfl
  · simp only [hg]; rfl
  · have : r = 0 := by omega
    subst this
    have e : (100 : Int) + ((0 : Nat) : Int) = 100 := rfl
    rw [e] at hg
    simp only [hg, if_true]; rfl
  · omega
/-- what stands around changes nothing -/
theorem run_wi {F G : List Fm} {k : Nat} {d d' : Dds} {r : Option Gs} (w : Wi F k G) (h : runLs 4000 F d = (d', r)) (hr : r = none ∨ r = some .nil ∨ r = some .fin ∨ r = some .on) : runLs 4000 G d = (d', r) := by
  induction w with
  | zero => exact h
  | part w ih =>
    rw [runLs, runFm, ih]
    rcases hr with rfl | rfl | rfl | rfl
    · rfl
    · show runLs 4000 [] _ = _
      rw [runLs]
    · rfl
    · rfl
  | @round k G w ih =>
    have ap : runLs 4000 (G ++ [.leave (1000 + (k : Int))]) d = thenR (d', r) fun d => runLs 4000 [.leave (1000 + (k : Int))] d := by
      rw [run_app, ih]
    rw [runLs, runFm, loopR]
    rcases hr with rfl | rfl | rfl | rfl
    · have ap : runLs 4000 (G ++ [.leave (1000 + (k : Int))]) d = (d', none) := ap
      simp only [ap]; rfl
    · have ap : runLs 4000 (G ++ [.leave (1000 + (k : Int))]) d = (d', some (.leave (1000 + (k : Int)))) := by
        rw [ap]
        show runLs 4000 [.leave (1000 + (k : Int))] d' = _
        rw [runLs, runFm]; rfl
      simp only [ap, if_true]
      show runLs 4000 [] _ = _
      rw [runLs]
    · have ap : runLs 4000 (G ++ [.leave (1000 + (k : Int))]) d = (d', some .fin) := ap
      simp only [ap]; rfl
    · have ap : runLs 4000 (G ++ [.leave (1000 + (k : Int))]) d = (d', some .on) := ap
      simp only [ap]; rfl
def cLimit : Cs := [108, 105, 109, 105, 116]
def names8 : List Cs := [[120], [110, 49], [99, 111, 117, 110, 116, 101, 114, 49], [101]]
theorem nm_ne {x : Cs} (h : x ∈ names8) : x ≠ cLimit ∧ x ≠ gNought ∧ x ≠ gNone9 := by revert x; decide
def mem8 (x : Cs) (a : Int) (n : Nat) : Mem := if a = 0 then [(cLimit, a + (n : Nat))] else putM [(cLimit, a + (n : Nat))] x a
theorem mem8_keys (x : Cs) (a : Int) (n : Nat) : KeysIn [cLimit, x] (mem8 x a n) := by
  have h1 : KeysIn [cLimit, x] [(cLimit, a + (n : Nat))] := ⟨by simp, fun s hs => by simp at hs; subst hs; exact List.mem_cons_self⟩
  unfold mem8
  split
  · exact h1
  · exact h1.put (by simp) _
theorem mem8_cn {x : Cs} {a : Int} {n : Nat} {lim : Opd} (hx : x ∈ names8) (n0 : 0 < n) (n1 : n ≤ 1500) (hl : lim = .inl (a + (n : Nat)) ∨ lim = .inr cLimit) : Cn (mem8 x a n) x a n lim where
  look := by
    unfold mem8
    split
    · next e =>
      have : (x == cLimit) = false := by rw [beq_eq_false_iff_ne]; exact (nm_ne hx).1
      simp [lookM, List.lookup, this, e]
    · rw [lookM_put, if_pos rfl]
  lim := fun v => by
    rcases hl with rfl | rfl
    · rfl
    · show lookM (putM (mem8 x a n) x v) cLimit = _
      rw [lookM_put, if_neg (nm_ne hx).1.symm]
      unfold mem8
      split
      · rfl
      · rw [lookM_put, if_neg (nm_ne hx).1.symm]
        rfl
  n0 := n0
  n1 := n1
theorem look_none {nm : List Cs} {M : Mem} (h : KeysIn nm M) {s : Cs} (hs : s ∉ nm) : lookM M s = 0 := by
  have : s ∉ M.map (·.1) := fun z => hs (h.sub s z)
  unfold lookM
  clear h
  induction M with
  | nil => rfl
  | cons p M ih =>
    obtain ⟨t, v⟩ := p
    rw [List.map_cons, List.mem_cons] at this
    have e : (s == t) = false := by rw [beq_eq_false_iff_ne]; exact fun z => this (.inl z)
    rw [List.lookup_cons, e]
    exact ih fun z => this (.inr z)
theorem memS_keys {nm : List Cs} {M0 : Mem} {x : Cs} {a : Int} (h : KeysIn nm M0) (hx : x ∈ nm) (k : Nat) : KeysIn nm (memS M0 x a k) := by
  unfold memS
  split
  · exact h
  · exact h.put hx _
/-- what the lines of such a form are -/
def LnP (x : Cs) : Ln → Prop
  | .sum y a s b => (y = x ∧ ∃ i, s = [43] ∧ b = .inl i ∧ i.natAbs < 10) ∨ (s = [47] ∧ b = .inl 0) ∨ (s = cRest ∧ b = .inr gNought)
  | _ => True
theorem lnp_wi {x : Cs} {F G : List Fm} {k : Nat} (w : Wi F k G) (h : ∀ l ∈ lnsL F, LnP x l) : ∀ l ∈ lnsL G, LnP x l := by
  induction w with
  | zero => exact h
  | part w ih =>
    intro l hl
    simp only [lnsL, lnsF, List.append_nil, List.mem_cons, List.mem_append, List.mem_singleton, List.not_mem_nil, or_false] at hl
    rcases hl with rfl | hl | rfl
    · trivial
    · exact ih l hl
    · trivial
  | round w ih =>
    intro l hl
    simp only [lnsL, lnsF, lnsL_app, List.append_nil, List.mem_cons, List.mem_append, List.mem_singleton, List.not_mem_nil, or_false] at hl
    rcases hl with rfl | (hl | rfl) | rfl
    · trivial
    · exact ih l hl
    · trivial
    · trivial
theorem lnp_cnt {x : Cs} (way : Int) (lim : Opd) (n : Int) : ∀ l ∈ lnsL (cntF way x lim n), LnP x l := by
  have g : LnP x (.sum x (.inr x) [43] (.inl 1)) := .inl ⟨rfl, 1, rfl, rfl, by decide⟩
  unfold cntF cntB
  split
  · intro l hl
    simp [lnsL, lnsF] at hl
    rcases hl with rfl | rfl | rfl | rfl | rfl | rfl | rfl | rfl <;> first | exact g | trivial
  · split
    · intro l hl
      simp [lnsL, lnsF] at hl
      rcases hl with rfl | rfl | rfl | rfl | rfl | rfl | rfl <;> first | exact g | trivial
    · intro l hl
      simp [lnsL, lnsF] at hl
      rcases hl with rfl | rfl | rfl | rfl | rfl | rfl | rfl | rfl | rfl | rfl <;> first | exact g | trivial
theorem lnp_sp {x : Cs} {inn : List Fm} (h : ∀ l ∈ lnsL inn, LnP x l) : ∀ (ws : List Bool) (k : Int), ∀ l ∈ lnsL (spF k ws inn), LnP x l
  | [], k => h
  | w :: ws, k => by
    have ih := lnp_sp h ws (k + 1)
    intro l hl
    rw [spF] at hl
    cases w
    all_goals
      simp only [if_true, Bool.false_eq_true, if_false, lnsL, lnsF, List.append_nil, List.mem_cons, List.mem_append, List.mem_singleton, List.not_mem_nil, or_false] at hl
      rcases hl with rfl | hl | rfl
      · trivial
      · exact ih l hl
      · trivial
theorem lnp_last {x : Cs} {S : List Fm} (way : Int) (h : ∀ l ∈ lnsL S, LnP x l) : ∀ l ∈ lnsL (lastF way x S), LnP x l := by
  unfold lastF
  split
  · intro l hl; rw [lnsL] at hl; exact nomatch hl
  split
  · intro l hl
    simp [lnsL, lnsF] at hl
    rcases hl with rfl | rfl
    · trivial
    · exact .inl ⟨rfl, 4, rfl, rfl, by decide⟩
  split
  · intro l hl
    simp [lnsL, lnsF] at hl
    subst hl
    exact .inr (.inl ⟨rfl, rfl⟩)
  split
  · intro l hl
    simp [lnsL, lnsF] at hl
    subst hl
    exact .inr (.inr ⟨rfl, rfl⟩)
  · exact h
theorem pre53 {x : Cs} (hx : x ∈ names8) {G : List Fm} (h : ∀ l ∈ lnsL G, LnP x l) {M : Mem} (hM : KeysIn [cLimit, x] M) {m : Nat} (hm : m ≤ 3100) : PreI ⟨M, (m : Int), []⟩ (lnsL G) := by
  refine ⟨by show ((m : Int) - ((([] : List Dd).length : Nat) : Int)).toNat < 4000; simp; omega, fun d => KeysIn [cLimit, x] d.mem ∧ d.most ≤ 3100 ∧ d.done.length ≤ 3100, ⟨fun d hd => ?_, fun y a s b hl d hd hf => ?_, fun a s b hl d hd hf => ?_⟩, hM, by show (m : Int) ≤ 3100; omega, by simp⟩
  · have := hd.1.len
    have e : [cLimit, x].length = 2 := rfl
    exact ⟨by omega, by omega⟩
  · have ne := nm_ne hx
    have l0 : lookM d.mem gNought = 0 := look_none hd.1 (by simp; exact ⟨by decide, fun z => ne.2.1 z.symm⟩)
    have hd2 : (d.done.length : Int) + 1 ≤ 3100 := by have := hd.2.1; omega
    rcases h _ hl with ⟨rfl, i, rfl, rfl, hi⟩ | ⟨rfl, rfl⟩ | ⟨rfl, rfl⟩
    · refine ⟨by show i.natAbs < 2 ^ 250; omega, fun v hv => ⟨hd.1.put (by simp) v, hd.2.1, ?_⟩⟩
      simp; omega
    · refine ⟨by show (0 : Int).natAbs < 2 ^ 250; decide, fun v hv => ?_⟩
      have : madeV [47] (worthM d.mem a) (worthM d.mem (.inl 0)) = none := by show madeV [47] _ 0 = none; simp [madeV]
      rw [this] at hv; exact nomatch hv
    · refine ⟨by show (lookM d.mem gNought).natAbs < 2 ^ 250; rw [l0]; decide, fun v hv => ?_⟩
      have : madeV cRest (worthM d.mem a) (worthM d.mem (.inr gNought)) = none := by
        show madeV cRest _ (lookM d.mem gNought) = none
        rw [l0]; simp [madeV, cRest]
      rw [this] at hv; exact nomatch hv
  · refine ⟨hd.1, hd.2.1, ?_⟩
    show (d.done ++ [_]).length ≤ 3100
    have := hd.2.1
    rw [List.length_append, List.length_singleton]; omega
theorem dp_wi {F G : List Fm} {k : Nat} (w : Wi F k G) : dpL G ≤ dpL F + k := by
  induction w with
  | zero => omega
  | part w ih => rw [dp_one, dpF]; omega
  | round w ih => rw [dp_one, dpF, dp_app, dp_one]; simp [dpF]; omega
theorem dp_sp {inn : List Fm} : ∀ (ws : List Bool) (k : Int), dpL (spF k ws inn) ≤ dpL inn + ws.length
  | [], k => by rw [spF]; simp
  | w :: ws, k => by
    have := dp_sp ws (k + 1) (inn := inn)
    rw [spF, dp_one, List.length_cons]
    cases w
    · rw [if_neg (by decide), dpF]; omega
    · rw [if_pos rfl, dpF]; omega
theorem dp_in {W : List Bool} {inn : List Fm} (h : SpIn W inn) : dpL inn = 0 ∧ ∀ x : Cs, ∀ l ∈ lnsL inn, LnP x l := by
  rcases h with rfl | ⟨r, _, rfl⟩ | ⟨j, _, rfl⟩
  · exact ⟨by rw [dpL], fun x l hl => by rw [lnsL] at hl; exact nomatch hl⟩
  · exact ⟨by simp [dpL, dpF], fun x l hl => by simp [lnsL, lnsF] at hl; subst hl; trivial⟩
  · exact ⟨by simp [dpL, dpF], fun x l hl => by simp [lnsL, lnsF] at hl; subst hl; trivial⟩
theorem dp_cnt (way : Int) (x : Cs) (lim : Opd) (n : Int) : dpL (cntF way x lim n) ≤ 4 := by
  unfold cntF cntB
  split
  · simp [dpL, dpF]
  · split
    · simp [dpL, dpF]
    · simp [dpL, dpF]
theorem dp_last {way : Int} {x : Cs} {S : List Fm} {b : Nat} (h : dpL S ≤ b) : dpL (lastF way x S) ≤ b := by
  unfold lastF
  split
  · rw [dpL]; omega
  split
  · simp [dpL, dpF]
  split
  · simp [dpL, dpF]
  split
  · simp [dpL, dpF]
  · exact h
/-- the run of the whole form -/
theorem run53 {x : Cs} {a : Int} {n : Nat} {lim : Opd} (hx : x ∈ names8) (h : Cn (mem8 x a n) x a n lim) {way0 way : Int} (hw : 0 ≤ way) {ws : List Bool} {inn : List Fm} (hin : SpIn (true :: ws) inn) {k : Nat} {G : List Fm} (w : Wi (cntF way0 x lim 5 ++ lastF way x (spF 100 (true :: ws) inn)) k G) (m : Nat) :
    tellR (runLs 4000 G ⟨mem8 x a n, (m : Int), []⟩) = (dedsF x a n m, wordG way n m, memS (mem8 x a n) x a (min (2 * n) m)) := by
  have rc := run_cnt h way0 5 (m := m)
  have ap := run_app 4000 (cntF way0 x lim 5) (lastF way x (spF 100 (true :: ws) inn)) ⟨mem8 x a n, (m : Int), []⟩
  rw [rc] at ap
  have ed : ∀ j, min (2 * n) m = j → dedsF x a n m = doneS x a n j := fun j e => by unfold dedsF doneS; rw [e]
  by_cases hm : m < 2 * n
  · rw [if_pos hm] at ap
    have e := run_wi w (show _ = (stS (mem8 x a n) x a n (m : Int) m, some .on) from ap) (.inr (.inr (.inr rfl)))
    rw [e, ed m (by omega), show min (2 * n) m = m by omega]
    unfold wordG
    rw [if_pos (.inr hm)]
    rfl
  rw [if_neg hm] at ap
  have e0 : min (2 * n) m = 2 * n := by omega
  have fin : ∀ g : Option Gs, runLs 4000 (lastF way x (spF 100 (true :: ws) inn)) (stS (mem8 x a n) x a n (m : Int) (2 * n)) = (stS (mem8 x a n) x a n (m : Int) (2 * n), g) → (g = none ∨ g = some .nil ∨ g = some .fin ∨ g = some .on) → (match g with | none => cFault | some .on => cOn | _ => cEnd) = wordG way n m → tellR (runLs 4000 G ⟨mem8 x a n, (m : Int), []⟩) = (dedsF x a n m, wordG way n m, memS (mem8 x a n) x a (min (2 * n) m)) := fun g hg hc hwd => by
    have ap : runLs 4000 (cntF way0 x lim 5 ++ lastF way x (spF 100 (true :: ws) inn)) ⟨mem8 x a n, (m : Int), []⟩ = runLs 4000 (lastF way x (spF 100 (true :: ws) inn)) (stS (mem8 x a n) x a n (m : Int) (2 * n)) := ap
    rw [hg] at ap
    rw [run_wi w ap hc, ed _ e0, e0, ← hwd]
    rfl
  have stl : (stS (mem8 x a n) x a n (m : Int) (2 * n)).done.length = 2 * n := stS_len _
  have stm : (stS (mem8 x a n) x a n (m : Int) (2 * n)).most = (m : Int) := rfl
  unfold lastF at fin
  by_cases w0 : way = 0
  · rw [if_pos w0] at fin
    refine fin (some .nil) (by rw [runLs]) (.inr (.inl rfl)) ?_
    unfold wordG; rw [if_neg (by omega), if_pos (by omega)]
  rw [if_neg w0] at fin
  by_cases w1 : way = 1
  · rw [if_pos w1] at fin
    refine fin (some .fin) (by rw [runLs, runFm]; rfl) (.inr (.inr (.inl rfl))) ?_
    unfold wordG; rw [if_neg (by omega), if_pos (by omega)]
  rw [if_neg w1] at fin
  have flt : ∀ (y : Cs) (p : Opd) (s : Cs) (q : Opd), madeV s (worthM (memS (mem8 x a n) x a (2 * n)) p) (worthM (memS (mem8 x a n) x a (2 * n)) q) = none → runLs 4000 [.sum y p s q] (stS (mem8 x a n) x a n (m : Int) (2 * n)) = (stS (mem8 x a n) x a n (m : Int) (2 * n), if m ≤ 2 * n then some .on else none) := fun y p s q hn => by
    rw [runLs, runFm]
    unfold sumR
    rw [stl, stm]
    by_cases hf : m ≤ 2 * n
    · rw [if_pos (show (m : Int) ≤ ((2 * n : Nat) : Int) by omega), if_pos hf]; rfl
    · rw [if_neg (show ¬(m : Int) ≤ ((2 * n : Nat) : Int) by omega), if_neg hf]
      show thenR (match madeV s (worthM (memS (mem8 x a n) x a (2 * n)) p) (worthM (memS (mem8 x a n) x a (2 * n)) q) with | none => _ | some v => _) _ = _
      rw [hn]; rfl
  have word : 2 ≤ way → way ≤ 3 → ∀ g : Option Gs, g = (if m ≤ 2 * n then some Gs.on else none) → (match g with | none => cFault | some .on => cOn | _ => cEnd) = wordG way n m := fun h2 h3 g hg => by
    have ew : wordG way n m = if 2 * n < m then cFault else cOn := by
      unfold wordG
      rw [if_neg (by omega), if_neg (by omega)]
    rw [ew, hg]
    by_cases hf : m ≤ 2 * n
    · rw [if_pos hf, if_neg (by omega)]
    · rw [if_neg hf, if_pos (by omega)]
  have cs : (if m ≤ 2 * n then some Gs.on else none) = none ∨ (if m ≤ 2 * n then some Gs.on else none) = some .nil ∨ (if m ≤ 2 * n then some Gs.on else none) = some .fin ∨ (if m ≤ 2 * n then some Gs.on else none) = some .on := by
    by_cases hf : m ≤ 2 * n
    · rw [if_pos hf]; exact .inr (.inr (.inr rfl))
    · rw [if_neg hf]; exact .inl rfl
  by_cases w2 : way = 2
  · rw [if_pos w2] at fin
    exact fin _ (flt _ _ _ _ (by show madeV [47] _ 0 = none; simp [madeV])) cs (word (by omega) (by omega) _ rfl)
  rw [if_neg w2] at fin
  by_cases w3 : way = 3
  · rw [if_pos w3] at fin
    have l0 : lookM (memS (mem8 x a n) x a (2 * n)) gNought = 0 := look_none (memS_keys (mem8_keys x a n) (by simp) _) (by simp; exact ⟨by decide, fun z => (nm_ne hx).2.1 z.symm⟩)
    refine fin _ (flt _ _ _ _ ?_) cs (word (by omega) (by omega) _ rfl)
    show madeV cRest _ (lookM (memS (mem8 x a n) x a (2 * n)) gNought) = none
    rw [l0]; simp [madeV, cRest]
  rw [if_neg w3] at fin
  refine fin _ (spin_on hin) (.inr (.inr (.inr rfl))) ?_
  unfold wordG
  rw [if_pos (.inl (by omega))]
theorem ix_q {ds : List D} {z : Int} {k : Nat} {P : D → Prop} (hk : ds.length = k) (h0 : 0 < k) (fz : isFzL ds = true) (q : ∀ d ∈ ds, P d) : ∃ d, ((ixN k (z % (k : Int))).bind fun j => ds[j]?) = some d ∧ isFz d = true ∧ P d := by
  have h1 := Int.emod_nonneg z (show (k : Int) ≠ 0 by omega)
  have h2 := Int.emod_lt_of_pos z (show (0 : Int) < k by omega)
  obtain ⟨i, hi⟩ := Int.eq_ofNat_of_zero_le h1
  rw [hi] at h2 ⊢
  have hi2 : i < ds.length := by omega
  rw [isFzL_all] at fz
  refine ⟨ds[i], ?_, List.all_eq_true.mp fz _ (List.getElem_mem hi2), q _ (List.getElem_mem hi2)⟩
  rw [ixN_pos (by omega) (by omega)]
  show ds[(i : Int).toNat]? = _
  rw [Int.toNat_natCast, List.getElem?_eq_getElem hi2]
theorem rd_law : Rd 1 [true] 14 sp_law t_law := by
  rintro ds Q Ex hl ⟨ns, rfl, ⟨hn, hb⟩, q⟩
  have hn : ns.length ≤ 63 := hn
  have q : Q (.bl true) [scriptD ns] := q
  have fz : isFz (scriptD ns) = true := script_fz ns
  unfold t_law
  simp! only [fz]
  refine c_Lmix ⟨hn, by decide, by decide⟩ ?_
  simp! only [fz]
  refine ix_q (k := 4) rfl (by decide) rfl fun d hd => ?_
  obtain ⟨x, hx, rfl⟩ : ∃ x ∈ names8, d = .str x := by
    simp only [List.mem_cons, List.not_mem_nil, or_false] at hd
    rcases hd with rfl | rfl | rfl | rfl
    all_goals exact ⟨_, by decide, rfl⟩
  unfold tb_law1
  simp! only [fz]
  refine c_Lraw (by decide) ?_
  simp! only [fz]
  have ha : (rawI ns 1 % 2000000000000000001 - 1000000000000000000).natAbs ≤ 1000000000000000000 := by omega
  generalize rawI ns 1 % 2000000000000000001 - 1000000000000000000 = a0 at ha ⊢
  obtain ⟨N, hN⟩ : ∃ N : VEnds, N = { nx := fun ε => 1 ≤ List.length ε ∧ Q D.non (finalL [true] [scriptD ns] ε), rt := fun r ε => 1 ≤ List.length ε ∧ Q r (finalL [true] [scriptD ns] ε), rx := fun cls row ε => 1 ≤ List.length ε ∧ Ex cls row (finalL [true] [scriptD ns] ε) } := ⟨_, rfl⟩
  rw [← hN]
  have qN : ∀ a b c d e f g h i j k l m, N.rt (.bl true) [some (scriptD ns), a, b, c, d, e, f, g, h, i, j, k, l, m] := fun a b c d e f g h i j k l m => by
    rw [hN]
    simp! only [fz]
    exact q
  have rest : ∀ (a : Int) (n : Nat), a.natAbs ≤ 1000000000000000000 → 0 < n → n ≤ 1500 → tb_law5 N [some (scriptD ns), some (.str x), some (.int a), some (.int (n : Int)), none, none, none, none, none, none, none, none, none, none] := by
    intro a n ha n0 n1
    unfold tb_law5
    simp! only [fz]
    refine c_Lmix ⟨hn, by decide, by decide⟩ ?_
    simp! only [fz]
    refine ix_q (k := 2) rfl (by decide) rfl fun d hd => ?_
    obtain ⟨lim, hlim, rfl⟩ : ∃ lim : Opd, (lim = .inl (a + (n : Nat)) ∨ lim = .inr cLimit) ∧ d = opD lim := by
      simp only [List.mem_cons, List.not_mem_nil, or_false] at hd
      rcases hd with rfl | rfl
      · exact ⟨.inl (a + (n : Nat)), .inl rfl, rfl⟩
      · exact ⟨.inr cLimit, .inr rfl, rfl⟩
    unfold tb_law6
    simp! only [fz, opD_fz]
    refine c_Lmix ⟨hn, by decide, by decide⟩ ?_
    simp! only [fz, opD_fz]
    generalize mixI ns 4 / 8 % 3 = way0
    refine c_Lcounting ?_
    simp! only [fz, opD_fz, fms_frz]
    unfold tb_law7
    simp! only [fz, opD_fz, fms_fz]
    refine c_Lmix ⟨hn, by decide, by decide⟩ ?_
    simp! only [fz, opD_fz, fms_fz]
    obtain ⟨way, hway, w0⟩ : ∃ way, way = mixI ns 5 / 8 % 6 ∧ 0 ≤ way := ⟨_, rfl, by omega⟩
    rw [← hway]
    unfold tb_law8
    simp! only [fz, opD_fz, fms_fz]
    refine c_Lmix ⟨hn, by decide, by decide⟩ ?_
    simp! only [fz, opD_fz, fms_fz]
    refine c_Lmix ⟨hn, by decide, by decide⟩ ?_
    simp! only [fz, opD_fz, fms_fz]
    obtain ⟨ms, hms, ms1⟩ : ∃ ms : Nat, mixI ns 7 / 8 % 20 = (ms : Int) ∧ ms < 20 := ⟨(mixI ns 7 / 8 % 20).toNat, by omega, by omega⟩
    rw [hms]
    refine c_Lspin ms1 fun ws inn lw hin => ?_
    simp! only [fz, opD_fz, fms_fz, fms_frz]
    unfold tb_law9
    simp! only [fz, opD_fz, fms_fz]
    refine c_Llast fun mm => ?_
    simp! only [fz, opD_fz, fms_fz, fms_frz]
    have ap : fmsD (cntF way0 x lim 5) ++ fmsD (lastF way x (spF 100 (true :: ws) inn)) = fmsD (cntF way0 x lim 5 ++ lastF way x (spF 100 (true :: ws) inn)) := by rw [fmsD_map, fmsD_map, fmsD_map, List.map_append]
    have ll : (lastF way x (spF 100 (true :: ws) inn)).length ≤ 2 := by
      unfold lastF
      repeat' split
      all_goals first | (simp; done) | (rw [spF]; simp; done)
    have lc : (cntF way0 x lim 5).length = 1 := by unfold cntF; rfl
    rw [ap, fms_frz]
    refine ⟨by rw [fmsD_map, fmsD_map, List.length_map, List.length_map]; omega, ?_⟩
    refine c_Lmix ⟨hn, by decide, by decide⟩ ?_
    simp! only [fz, opD_fz, fms_fz]
    refine c_Lmix ⟨hn, by decide, by decide⟩ ?_
    simp! only [fz, opD_fz, fms_fz]
    obtain ⟨mw, hmw, mw1⟩ : ∃ mw : Nat, mixI ns 9 / 8 % 61 = (mw : Int) ∧ mw < 61 := ⟨(mixI ns 9 / 8 % 61).toNat, by omega, by omega⟩
    rw [hmw]
    refine c_Lwithin ⟨by omega, by rw [List.length_append]; omega⟩ fun G w => ?_
    simp! only [fz, opD_fz, fms_fz, fms_frz]
    have hc := mem8_cn hx n0 n1 hlim
    have dsp := dp_sp (true :: ws) 100 (inn := inn)
    have din := dp_in hin
    have dG : dpL G ≤ 88 := by
      have h1 := dp_wi w
      have h2 := dp_cnt way0 x lim 5
      have h3 := dp_last (way := way) (x := x) (S := spF 100 (true :: ws) inn) (b := 20) (by rw [List.length_cons] at dsp; omega)
      rw [dp_app] at h1
      omega
    have pG : ∀ l ∈ lnsL G, LnP x l := lnp_wi w fun l hl => by
      rw [lnsL_app] at hl
      rcases List.mem_append.mp hl with hl | hl
      · exact lnp_cnt way0 lim 5 l hl
      · exact lnp_last way (lnp_sp (din.2 x) (true :: ws) 100) l hl
    have rest2 : tb_law12 N [some (scriptD ns), some (.str x), some (.int a), some (.int (n : Int)), some (opD lim), some (.lst false (fmsD G)), some (.int way), some (.lst false (fmsD (spF 100 (true :: ws) inn))), some (mmD true (mem8 x a n)), none, none, none, none, none] := by
      have kM := mem8_keys x a n
      have rn := fun m => run53 (way0 := way0) hx hc w0 hin w m
      obtain ⟨M0, hM0⟩ : ∃ M, M = mem8 x a n := ⟨_, rfl⟩
      rw [← hM0] at kM rn ⊢
      have kl : M0.length ≤ 2 := by have := kM.len; exact this
      have dm : ∀ b Q, sDict [mmD b M0] Q ↔ Q (mmD true M0) := fun b Q => by unfold mmD; rw [e_dict]; exact ⟨fun h => h.2, fun h => ⟨mm_fzL M0, h⟩⟩
      unfold tb_law12
      simp! only [fz, opD_fz, fms_fz]
      refine c_Lmix ⟨hn, by decide, by decide⟩ ?_
      simp! only [fz, opD_fz, fms_fz]
      obtain ⟨ch, hch⟩ : ∃ ch, ch = mixI ns 10 / 8 % 6 := ⟨_, rfl⟩
      rw [← hch]
      unfold tb_law13
      simp! only [fz, opD_fz, fms_fz]
      refine c_Lraw (by decide) ?_
      simp! only [fz, opD_fz, fms_fz]
      have mk : ∀ P : D → Prop, (∀ mo : Nat, mo < 3100 → (ch = 0 → mo = 100) → P (.int (mo : Int))) → ∃ d, ((ixN 6 ch).bind fun j => [D.int 100, D.int 0, D.int (2 * (n : Int)), D.int (2 * (n : Int) - 1), D.int (2 * (n : Int) + 1), D.int (rawI ns 11 % 200)][j]?) = some d ∧ isFz d = true ∧ P d := fun P hP => by
        have e : ch = 0 ∨ ch = 1 ∨ ch = 2 ∨ ch = 3 ∨ ch = 4 ∨ ch = 5 := by omega
        have lit : ∀ (v : Int), 0 ≤ v → v < 3100 → (ch = 0 → v = 100) → P (.int v) := fun v h1 h2 h3 => by
          have := hP v.toNat (by omega) (fun z => by have := h3 z; omega)
          rwa [Int.toNat_of_nonneg h1] at this
        rcases e with e | e | e | e | e | e
        all_goals rw [e] at lit ⊢
        · exact ⟨_, rfl, rfl, lit _ (by omega) (by omega) (fun _ => rfl)⟩
        · exact ⟨_, rfl, rfl, lit _ (by omega) (by omega) (by omega)⟩
        · exact ⟨_, rfl, rfl, lit _ (by omega) (by omega) (by omega)⟩
        · exact ⟨_, rfl, rfl, lit _ (by omega) (by omega) (by omega)⟩
        · exact ⟨_, rfl, rfl, lit _ (by omega) (by omega) (by omega)⟩
        · exact ⟨_, rfl, rfl, lit _ (by omega) (by omega) (by omega)⟩
      refine mk _ fun mo hmo h100 => ?_
      have rn := rn mo
      have lD : (dedsF x a n mo).length = min (2 * n) mo := by simp [dedsF]
      have lM : (memS M0 x a (min (2 * n) mo)).length ≤ 2 := (memS_keys kM (by simp) _).len
      unfold tb_law14
      have fin : tb_law15 N [some (scriptD ns), some (.str x), some (.int a), some (.int (n : Int)), some (opD lim), some (.lst false (fmsD G)), some (.int way), some (.lst false (fmsD (spF 100 (true :: ws) inn))), some (mmD true M0), some (.int ch), some (.int (mo : Int)),
          some (.tup [.lst false ((dedsF x a n mo).map dedD), .str (wordG way n mo), mmD false (memS M0 x a (min (2 * n) mo))]), none, none] := by
        unfold tb_law15
        simp! only [fz, opD_fz, fms_fz, mm_fz]
        refine c_Ldeeds ⟨by omega, by omega⟩ ?_
        simp! only [deds_frz]
        unfold tb_law16
        simp! only [fz, opD_fz, fms_fz, mm_fz, deds_fz, dm]
        unfold tb_law17
        have fin2 : tb_law18 N [some (scriptD ns), some (.str x), some (.int a), some (.int (n : Int)), some (opD lim), some (.lst false (fmsD G)), some (.int way), some (.lst false (fmsD (spF 100 (true :: ws) inn))), some (mmD true M0), some (.int ch), some (.int (mo : Int)),
            some (.tup [.lst false ((dedsF x a n mo).map dedD), .str (wordG way n mo), mmD false (memS M0 x a (min (2 * n) mo))]), some (.lst false ((dedsF x a n mo).map dedD)), some (mmD true (memS M0 x a (min (2 * n) mo)))] := by
          unfold tb_law18
          simp! only [fz, deds_fz, mm_fz]
          refine c_Lword (by omega) ?_
          simp! only [fz, deds_fz, mm_fz]
          refine c_Lalike rfl (plN_str _ _) ?_
          simp! only [fz, deds_fz, mm_fz]
          unfold tb_law19
          simp! only [fz, deds_fz, mm_fz]
          refine c_Lalike rfl (deds_plN (by rw [lD]; omega)) ?_
          simp! only [fz, deds_fz, mm_fz, mm_frz]
          exact c_Lsame_memory rfl (by omega) ⟨rfl, qN _ _ _ _ _ _ _ _ _ _ _ _ _⟩
        simp! only [deds_fz, lD]
        by_cases hz : min (2 * n) mo = 0
        · rw [if_neg (by omega)]
          have : memS M0 x a (min (2 * n) mo) = M0 := by unfold memS; rw [if_pos hz]
          rw [this] at fin2 ⊢
          exact fin2
        · rw [if_pos (by omega)]
          have : memS M0 x a (min (2 * n) mo) = putM M0 x (a + (((min (2 * n) mo : Nat) : Int) + 1) / 2) := by
            unfold memS
            rw [if_neg hz]
            rfl
          rw [this] at fin2 ⊢
          exact ⟨_, put_mm (by omega), fin2⟩
      have told : frz (toldD (dedsF x a n mo, wordG way n mo, memS M0 x a (min (2 * n) mo))) = .tup [.lst false ((dedsF x a n mo).map dedD), .str (wordG way n mo), mmD false (memS M0 x a (min (2 * n) mo))] := by
        unfold toldD
        show D.tup [frz (.lst true _), .str _, frz (mmD true _)] = _
        rw [mm_frz]
        show D.tup [.lst false (frzL _), _, _] = _
        rw [deds_frz]
      have pr := pre53 hx pG kM (m := mo) (by omega)
      by_cases hc : ch = 0
      · have e100 := h100 hc
        subst e100
        simp! only [fz, opD_fz, fms_fz, mm_fz, hc, vLendD, mm_frz, fms_frz]
        rw [hc] at fin
        refine c_run_form ⟨dG, pr⟩ ⟨new_told _, ?_⟩
        have rn : tellR (runLs 4000 G ⟨M0, 100, []⟩) = (dedsF x a n 100, wordG way n 100, memS M0 x a (min (2 * n) 100)) := rn
        rw [rn, told]
        exact fin
      · simp! only [fz, opD_fz, fms_fz, mm_fz, hc, mm_frz, fms_frz]
        refine c_run_form ⟨dG, pr⟩ ⟨new_told _, ?_⟩
        rw [rn, told]
        exact fin
    unfold tb_law10
    simp! only [fz, opD_fz, fms_fz]
    have em0 : D.dK true [Sum.inr [108, 105, 109, 105, 116]] [D.int (a + (n : Int))] = mmD true [(cLimit, a + (n : Int))] := rfl
    refine ⟨_, rfl, by simp, ?_⟩
    unfold tb_law11
    simp! only [fz, opD_fz, fms_fz, mm_fz]
    by_cases ha0 : a = 0
    · rw [if_neg (by simp [ha0])]
      have : mem8 x a n = [(cLimit, a + (n : Int))] := by unfold mem8; rw [if_pos ha0]
      rw [this] at rest2
      exact rest2
    · rw [if_pos (by simp [ha0])]
      have : mem8 x a n = putM [(cLimit, a + (n : Int))] x a := by unfold mem8; rw [if_neg ha0]
      rw [this] at rest2
      exact ⟨_, put_mm (M := [(cLimit, a + (n : Int))]) (by simp), rest2⟩
  have rest3 : ∀ a : Int, a.natAbs ≤ 1000000000000000000 → tb_law3 N [some (scriptD ns), some (.str x), some (.int a), none, none, none, none, none, none, none, none, none, none, none] := fun a ha => by
    unfold tb_law3
    simp! only [fz]
    refine c_Lmix ⟨hn, by decide, by decide⟩ ?_
    simp! only [fz]
    unfold tb_law4
    simp! only [fz]
    refine c_Lmix ⟨hn, by decide, by decide⟩ ?_
    simp! only [fz]
    split
    · refine c_Lmix ⟨hn, by decide, by decide⟩ ?_
      simp! only [fz]
      have := rest a (600 + mixI ns 12 / 64 % 900).toNat ha (by omega) (by omega)
      rw [Int.toNat_of_nonneg (by omega)] at this
      exact this
    · have := rest a (1 + mixI ns 2 / 8 % 50).toNat ha (by omega) (by omega)
      rw [Int.toNat_of_nonneg (by omega)] at this
      exact this
  unfold tb_law2
  simp! only [fz]
  refine c_Lmix ⟨hn, by decide, by decide⟩ ?_
  simp! only [fz]
  split
  · exact rest3 0 (by decide)
  · exact rest3 a0 ha
theorem law_true (ns : List Int) (hl : ns.length ≤ 63) (hb : ∀ z ∈ ns, Builtin.Int.intBits z ≤ 1048576) : sp_law [scriptD ns] (fun r _ => r = .bl true) (fun _ _ _ => False) := ⟨ns, rfl, ⟨hl, hb⟩, rfl⟩
end Pk53
namespace Pk53
open PySem PySem.Spec PyProof.Rows L2 VL
structure Hd (K : PySem.W.Frag) (mg : Str → Option Value) : Prop where
  f_Deeds_told : ∃ fd, FunD K "told" "Deeds.told" (defArgs s_Deeds_told) (defBody s_Deeds_told) (defScope s_Deeds_told) [] [] (He.ma K (He.ga K "Deeds") "told") fd
  f_Deeds_test_of : ∃ fd, FunD K "test_of" "Deeds.test_of" (defArgs s_Deeds_test_of) (defBody s_Deeds_test_of) (defScope s_Deeds_test_of) [] [] (He.ma K (He.ga K "Deeds") "test_of") fd
  f_Deeds_sum_of : ∃ fd, FunD K "sum_of" "Deeds.sum_of" (defArgs s_Deeds_sum_of) (defBody s_Deeds_sum_of) (defScope s_Deeds_sum_of) [] [] (He.ma K (He.ga K "Deeds") "sum_of") fd
  f_Deeds_name_of : ∃ fd, FunD K "name_of" "Deeds.name_of" (defArgs s_Deeds_name_of) (defBody s_Deeds_name_of) (defScope s_Deeds_name_of) [] [] (He.ma K (He.ga K "Deeds") "name_of") fd
  f_Deeds_worth_of : ∃ fd, FunD K "worth_of" "Deeds.worth_of" (defArgs s_Deeds_worth_of) (defBody s_Deeds_worth_of) (defScope s_Deeds_worth_of) [] [] (He.ma K (He.ga K "Deeds") "worth_of") fd
  f_Deeds_full : ∃ fd, FunD K "full" "Deeds.full" (defArgs s_Deeds_full) (defBody s_Deeds_full) (defScope s_Deeds_full) [] [] (He.ma K (He.ga K "Deeds") "full") fd
  f_Deeds_init : ∃ fd, FunD K "__init__" "Deeds.__init__" (defArgs s_Deeds_init) (defBody s_Deeds_init) (defScope s_Deeds_init) [] [] (He.ma K (He.ga K "Deeds") "__init__") fd
  f_made : FnAt K mg "made" s_made
  f_holds : FnAt K mg "holds" s_holds
  f_worth : FnAt K mg "worth" s_worth
  f_run_round : FnAt K mg "run_round" s_run_round
  f_run_statement : FnAt K mg "run_statement" s_run_statement
  f_run_list : FnAt K mg "run_list" s_run_list
  f_run_form : ∃ f fd, mg "run_form" = some (.ref f) ∧ FunD K "run_form" "run_form" (defArgs s_run_form) (defBody s_run_form) (defScope s_run_form) [.int 100] [] f fd
  f_Lraw : FnAt K mg "_law_raw" s_Lraw
  f_Lmix : FnAt K mg "_law_mix" s_Lmix
  f_Lalike : FnAt K mg "_law_alike" s_Lalike
  f_Lsame_memory : FnAt K mg "_law_same_memory" s_Lsame_memory
  f_Lcounting : FnAt K mg "_law_counting" s_Lcounting
  f_Lspin : FnAt K mg "_law_spin" s_Lspin
  f_Llast : FnAt K mg "_law_last" s_Llast
  f_Lwithin : FnAt K mg "_law_within" s_Lwithin
  f_Ldeeds : FnAt K mg "_law_deeds" s_Ldeeds
  f_Lword : FnAt K mg "_law_word" s_Lword
  f_law : FnAt K mg "law" s_law
  kl_Deeds : Cls K (cA K 0)
  mk_Deeds : L2.Mk K (cA K 0) (He.ma K (He.ga K "Deeds") "__init__")
  gc_Deeds : mg "Deeds" = some (.ref (cA K 0))
  na_Deeds_memory : NoAttr K (cA K 0) "memory"
  na_Deeds_done : NoAttr K (cA K 0) "done"
  na_Deeds_most : NoAttr K (cA K 0) "most"
  me_Deeds_full : Meth K (cA K 0) "full" (He.ma K (He.ga K "Deeds") "full")
  me_Deeds_worth_of : Meth K (cA K 0) "worth_of" (He.ma K (He.ga K "Deeds") "worth_of")
  me_Deeds_name_of : Meth K (cA K 0) "name_of" (He.ma K (He.ga K "Deeds") "name_of")
  me_Deeds_sum_of : Meth K (cA K 0) "sum_of" (He.ma K (He.ga K "Deeds") "sum_of")
  me_Deeds_test_of : Meth K (cA K 0) "test_of" (He.ma K (He.ga K "Deeds") "test_of")
  me_Deeds_told : Meth K (cA K 0) "told" (He.ma K (He.ga K "Deeds") "told")
  b_dict : mg "dict" = none
  b_list : mg "list" = none
  b_len : mg "len" = none
  b_divmod : mg "divmod" = none
  b_isinstance : mg "isinstance" = none
  b_str : mg "str" = none
  b_bool : mg "bool" = none
  b_int : mg "int" = none
  b_tuple : mg "tuple" = none
  b_zip : mg "zip" = none
  b_range : mg "range" = none
  b_min : mg "min" = none
  b_ValueError : mg "ValueError" = none
  gx_ByNought : mg "ByNought" = some (.ref (He.ga K "ByNought"))
  ex : exOk RLx ctx ktx K = true
  ini : ∃ fd, FunD K "__init__" "JumpError.__init__" (defArgs s_ini) (defBody s_ini) (defScope s_ini) [.non] [] (fiA K) fd
theorem sc_ini : FnScope ["self", "row"] ["self", "row"] (defScope s_ini) := ⟨rfl, rfl, rfl, by decide +kernel, rfl, by decide +kernel, by decide +kernel⟩
theorem F_ini {P : Program} {w : World} {K : PySem.W.Frag} {mg : Str → Option Value} {base : Heap} (c : Hd K mg) : ExFn P w K mg base 1 :=
  ini_fn c.ini sc_ini (fun F => F.binds1 1 0 (by simp) rfl fun _ _ _ _ _ _ _ us its h1 h2 => match us, h1, its, h2 with | [_], _, [_], _ => ⟨_, rfl, rfl⟩)
    (fun cdv A outer s H E => pss_cons (ps_expr (pe_veinit rfl c.b_ValueError (exOk_g c.ex).vV (pa_cons (pe_var rfl (Or.inl rfl)) (pa_cons pe_str pa_nil)))) (pss_one (ps_ost (pe_var rfl (Or.inl rfl)) (pe_var rfl (Or.inl rfl)))))
theorem sc_Deeds_told : FnScope ["self", "word"] ["self", "word"] (defScope s_Deeds_told) := ⟨rfl, rfl, rfl, by decide +kernel, rfl, by decide +kernel, by decide +kernel⟩
theorem M_Deeds_told {P : Program} {w : World} {K : PySem.W.Frag} {mg : Str → Option Value} {base : Heap} (c : Hd K mg) : Mv P w K mg base 0 "told" 1 2 sp_Deeds_told :=
  Mv.make (κ := [true, true]) (t := t_Deeds_told) c.f_Deeds_told c.me_Deeds_told sc_Deeds_told (fun F => F.bindsN fun _ _ _ _ _ _ us hl => match us, hl with | [_, _], _ => rfl) rfl (by decide)
    (fun f cdv A outer s H E hr => let sc := sc_Deeds_told; (vss_one (vs_ret (ve_tup (va_cons (vg_val (ve_listF (i := 0) rfl (by first | exact Or.inl rfl | exact Or.inr (Or.inl rfl) | exact Or.inr (Or.inr rfl)) c.kl_Deeds c.na_Deeds_done rfl rfl c.b_list)) (va_cons (vg_val (nv 1)) (va_cons (vg_val (ve_dictF (i := 0) rfl (by first | exact Or.inl rfl | exact Or.inr (Or.inl rfl) | exact Or.inr (Or.inr rfl)) c.kl_Deeds c.na_Deeds_memory rfl rfl c.b_dict)) (va_nil)))))))) mono_Deeds_told rd_Deeds_told
theorem Mh_Deeds_told {P : Program} {w : World} {K : PySem.W.Frag} {mg : Str → Option Value} {base : Heap} (c : Hd K mg) : Mh P w K mg base 0 "told" 1 2 sp_Deeds_told :=
  Mh.make (κ := [true, true]) (t := t_Deeds_told) c.f_Deeds_told c.me_Deeds_told sc_Deeds_told (fun F => F.bindsN fun _ _ _ _ _ _ us hl => match us, hl with | [_, _], _ => rfl) rfl (by decide)
    (fun f cdv A outer s H E p hr => let sc := sc_Deeds_told; (vss_one (vs_ret (ve_tup (va_cons (vg_val (ve_listF (i := 0) rfl (by first | exact Or.inl rfl | exact Or.inr (Or.inl rfl) | exact Or.inr (Or.inr rfl)) c.kl_Deeds c.na_Deeds_done rfl rfl c.b_list)) (va_cons (vg_val (nv 1)) (va_cons (vg_val (ve_dictF (i := 0) rfl (by first | exact Or.inl rfl | exact Or.inr (Or.inl rfl) | exact Or.inr (Or.inr rfl)) c.kl_Deeds c.na_Deeds_memory rfl rfl c.b_dict)) (va_nil)))))))) mono_Deeds_told rd_Deeds_told
theorem sc_Deeds_name_of : FnScope ["self", "place"] ["self", "place"] (defScope s_Deeds_name_of) := ⟨rfl, rfl, rfl, by decide +kernel, rfl, by decide +kernel, by decide +kernel⟩
theorem M_Deeds_name_of {P : Program} {w : World} {K : PySem.W.Frag} {mg : Str → Option Value} {base : Heap} (c : Hd K mg) : Mv P w K mg base 0 "name_of" 1 2 sp_Deeds_name_of :=
  Mv.make (κ := [true, true]) (t := t_Deeds_name_of) c.f_Deeds_name_of c.me_Deeds_name_of sc_Deeds_name_of (fun F => F.bindsN fun _ _ _ _ _ _ us hl => match us, hl with | [_, _], _ => rfl) rfl (by decide)
    (fun f cdv A outer s H E hr => let sc := sc_Deeds_name_of; (vss_one (vs_ret (nv 1)))) mono_Deeds_name_of rd_Deeds_name_of
theorem sc_Deeds_full : FnScope ["self"] ["self"] (defScope s_Deeds_full) := ⟨rfl, rfl, rfl, by decide +kernel, rfl, by decide +kernel, by decide +kernel⟩
theorem M_Deeds_full {P : Program} {w : World} {K : PySem.W.Frag} {mg : Str → Option Value} {base : Heap} (c : Hd K mg) : Mv P w K mg base 0 "full" 1 1 sp_Deeds_full :=
  Mv.make (κ := [true]) (t := t_Deeds_full) c.f_Deeds_full c.me_Deeds_full sc_Deeds_full (fun F => F.bindsN fun _ _ _ _ _ _ us hl => match us, hl with | [_], _ => rfl) rfl (by decide)
    (fun f cdv A outer s H E hr => let sc := sc_Deeds_full; (vss_one (vs_ret (ve_view (wv_cmp op_ge opn_ge (wv_callB call_lenA opn_len rfl c.b_len rfl (wvs_cons (wv_fld (wv_name 0) c.kl_Deeds c.na_Deeds_done rfl) (wvs_nil))) (wv_fld (wv_name 0) c.kl_Deeds c.na_Deeds_most rfl) rfl))))) mono_Deeds_full rd_Deeds_full
theorem sc_Deeds_init : FnScope ["self", "memory", "most"] ["self", "memory", "most"] (defScope s_Deeds_init) := ⟨rfl, rfl, rfl, by decide +kernel, rfl, by decide +kernel, by decide +kernel⟩
theorem M_Deeds_init {P : Program} {w : World} {K : PySem.W.Frag} {mg : Str → Option Value} {base : Heap} (c : Hd K mg) : Nv P w K mg base 0 1 3 sp_Deeds_init :=
  Nv.make (κ := [true, true, true]) (t := t_Deeds_init) c.f_Deeds_init c.mk_Deeds sc_Deeds_init (fun F => F.bindsN fun _ _ _ _ _ _ us hl => match us, hl with | [_, _, _], _ => rfl) rfl (by decide)
    (fun f cdv A outer s H E hr => let sc := sc_Deeds_init; (vss_cons (vs_fld (i := 0) (ve_callTy call_dictD opn_dict rfl c.b_dict rfl (va_cons (vg_val (nv 1)) (va_nil))) rfl (by first | exact Or.inl rfl | exact Or.inr (Or.inl rfl) | exact Or.inr (Or.inr rfl)) c.kl_Deeds c.na_Deeds_memory rfl) (vss_cons (vs_fld (i := 0) (nv 2) rfl (by first | exact Or.inl rfl | exact Or.inr (Or.inl rfl) | exact Or.inr (Or.inr rfl)) c.kl_Deeds c.na_Deeds_most rfl) (vss_one (vs_fld (i := 0) (ve_lst (va_nil)) rfl (by first | exact Or.inl rfl | exact Or.inr (Or.inl rfl) | exact Or.inr (Or.inr rfl)) c.kl_Deeds c.na_Deeds_done rfl))))) mono_Deeds_init rd_Deeds_init
theorem sc_holds : FnScope ["sign", "one", "other"] ["sign", "one", "other"] (defScope s_holds) := ⟨rfl, rfl, rfl, by decide +kernel, rfl, by decide +kernel, by decide +kernel⟩
theorem F_holds {P : Program} {w : World} {K : PySem.W.Frag} {mg : Str → Option Value} {base : Heap} (c : Hd K mg) : Fv P w K mg base "holds" 1 3 sp_holds :=
  Fv.mk2 (κ := [true, true, true]) (t := t_holds) c.f_holds sc_holds (fun F => F.bindsN fun _ _ _ _ _ _ us hl => match us, hl with | [_, _, _], _ => rfl) rfl (by decide)
    (fun f cdv A outer s H E hr => let sc := sc_holds; (vss_cons (vs_if (vt_cmp (opr_eq hr) opn_eq (vg_val (nv 0)) (vg_val ((ve_str rfl))) rfl) (vss_one (vs_ret (ve_cmp op_lt opn_lt (vg_val (nv 1)) (vg_val (nv 2)) rfl))) (vss_nil)) (vss_one (vs_ret (ve_cmp (opr_eq hr) opn_eq (vg_val (nv 1)) (vg_val (nv 2)) rfl))))) mono_holds rd_holds
theorem sc_worth : FnScope ["operand", "memory"] ["operand", "memory"] (defScope s_worth) := ⟨rfl, rfl, rfl, by decide +kernel, rfl, by decide +kernel, by decide +kernel⟩
theorem F_worth {P : Program} {w : World} {K : PySem.W.Frag} {mg : Str → Option Value} {base : Heap} (c : Hd K mg) : Fv P w K mg base "worth" 1 2 sp_worth :=
  Fv.mk2 (κ := [true, true]) (t := t_worth) c.f_worth sc_worth (fun F => F.bindsN fun _ _ _ _ _ _ us hl => match us, hl with | [_, _], _ => rfl) rfl (by decide)
    (fun f cdv A outer s H E hr => let sc := sc_worth; (vss_cons (vs_if (vt_val (ve_callB call_isi opn_isi rfl c.b_isinstance rfl (va_cons (vg_val (nv 0)) (va_cons (vg_val ((ve_ty rfl c.b_str rfl))) (va_nil))))) (vss_one (vs_ret (ve_dget2 hr (vg_val (nv 1)) (vg_val (nv 0)) (vg_val (ve_int)) ⟨rfl, rfl, rfl, rfl⟩))) (vss_nil)) (vss_one (vs_ret (nv 0))))) mono_worth rd_worth
theorem sc_Lraw : FnScope ["_law_script", "_law_k"] ["_law_script", "_law_k"] (defScope s_Lraw) := ⟨rfl, rfl, rfl, by decide +kernel, rfl, by decide +kernel, by decide +kernel⟩
theorem F_Lraw {P : Program} {w : World} {K : PySem.W.Frag} {mg : Str → Option Value} {base : Heap} (c : Hd K mg) : Fv P w K mg base "_law_raw" 1 2 sp_Lraw :=
  Fv.mk2 (κ := [true, true]) (t := t_Lraw) c.f_Lraw sc_Lraw (fun F => F.bindsN fun _ _ _ _ _ _ us hl => match us, hl with | [_, _], _ => rfl) rfl (by decide)
    (fun f cdv A outer s H E hr => let sc := sc_Lraw; (vss_cons (vs_if (vt_cmp (opr_eq hr) opn_eq (vg_val (ve_callB call_lenA opn_len rfl c.b_len rfl (va_cons (vg_val (nv 0)) (va_nil)))) (vg_val (ve_int)) rfl) (vss_one (vs_ret (nv 1))) (vss_nil)) (vss_one (vs_ret (ve_ix hr (vg_val (nv 0)) (vg_val (ve_bin op_modN opn_mod (vg_val (nv 1)) (vg_val (ve_callB call_lenA opn_len rfl c.b_len rfl (va_cons (vg_val (nv 0)) (va_nil)))))) (fun _ _ => rfl)))))) mono_Lraw rd_Lraw
theorem sc_Lcounting : FnScope ["_law_way", "_law_name", "_law_limit", "_law_number", "_law_grow", "_law_turn"] ["_law_way", "_law_name", "_law_limit", "_law_number"] (defScope s_Lcounting) := ⟨rfl, rfl, rfl, by decide +kernel, rfl, by decide +kernel, by decide +kernel⟩
theorem F_Lcounting {P : Program} {w : World} {K : PySem.W.Frag} {mg : Str → Option Value} {base : Heap} (c : Hd K mg) : Fv P w K mg base "_law_counting" 1 4 sp_Lcounting :=
  Fv.mk2 (κ := [true, true, true, true]) (t := t_Lcounting) c.f_Lcounting sc_Lcounting (fun F => F.bindsN fun _ _ _ _ _ _ us hl => match us, hl with | [_, _, _, _], _ => rfl) rfl (by decide)
    (fun f cdv A outer s H E hr => let sc := sc_Lcounting; (vss_cons (sa 4 sc.nd (ve_tup (va_cons (vg_val ((ve_str rfl))) (va_cons (vg_val (nv 1)) (va_cons (vg_val (nv 1)) (va_cons (vg_val ((ve_str rfl))) (va_cons (vg_val (ve_int)) (va_nil)))))))) (vss_cons (vs_if (vt_cmp (opr_eq hr) opn_eq (vg_val (nv 0)) (vg_val (ve_int)) rfl) (vss_cons (sa 5 sc.nd (ve_tup (va_cons (vg_val ((ve_str rfl))) (va_cons (vg_val (nv 1)) (va_cons (vg_val ((ve_str rfl))) (va_cons (vg_val (nv 2)) (va_cons (vg_val (ve_still (ve_lst (va_cons (vg_val (ve_tup (va_cons (vg_val ((ve_str rfl))) (va_cons (vg_val (nv 3)) (va_nil))))) (va_nil))))) (va_cons (vg_val (ve_still (ve_lst (va_nil)))) (va_nil))))))))) (vss_one (vs_ret (ve_lst (va_cons (vg_val (ve_tup (va_cons (vg_val ((ve_str rfl))) (va_cons (vg_val (nv 3)) (va_cons (vg_val (ve_still (ve_lst (va_cons (vg_val (nv 4)) (va_cons (vg_val (nv 5)) (va_cons (vg_val (ve_tup (va_cons (vg_val ((ve_str rfl))) (va_cons (vg_val (nv 3)) (va_nil))))) (va_nil))))))) (va_nil)))))) (va_nil)))))) (vss_nil)) (vss_cons (vs_if (vt_cmp (opr_eq hr) opn_eq (vg_val (nv 0)) (vg_val (ve_int)) rfl) (vss_cons (sa 5 sc.nd (ve_tup (va_cons (vg_val ((ve_str rfl))) (va_cons (vg_val (nv 1)) (va_cons (vg_val ((ve_str rfl))) (va_cons (vg_val (nv 2)) (va_cons (vg_val (ve_still (ve_lst (va_nil)))) (va_cons (vg_val (ve_still (ve_lst (va_cons (vg_val (ve_tup (va_cons (vg_val ((ve_str rfl))) (va_cons (vg_val (nv 3)) (va_nil))))) (va_nil))))) (va_nil))))))))) (vss_one (vs_ret (ve_lst (va_cons (vg_val (ve_tup (va_cons (vg_val ((ve_str rfl))) (va_cons (vg_val (nv 3)) (va_cons (vg_val (ve_still (ve_lst (va_cons (vg_val (nv 4)) (va_cons (vg_val (nv 5)) (va_nil)))))) (va_nil)))))) (va_nil)))))) (vss_nil)) (vss_cons (sa 5 sc.nd (ve_tup (va_cons (vg_val ((ve_str rfl))) (va_cons (vg_val (nv 1)) (va_cons (vg_val ((ve_str rfl))) (va_cons (vg_val (nv 2)) (va_cons (vg_val (ve_still (ve_lst (va_cons (vg_val (ve_tup (va_cons (vg_val ((ve_str rfl))) (va_cons (vg_val (ve_bin opr_add opn_add (vg_val (nv 3)) (vg_val (ve_int)))) (va_nil))))) (va_nil))))) (va_cons (vg_val (ve_still (ve_lst (va_nil)))) (va_nil))))))))) (vss_one (vs_ret (ve_lst (va_cons (vg_val (ve_tup (va_cons (vg_val ((ve_str rfl))) (va_cons (vg_val (nv 3)) (va_cons (vg_val (ve_still (ve_lst (va_cons (vg_val (ve_tup (va_cons (vg_val ((ve_str rfl))) (va_cons (vg_val (ve_bin opr_add opn_add (vg_val (nv 3)) (vg_val (ve_int)))) (va_cons (vg_val (ve_still (ve_lst (va_cons (vg_val (nv 4)) (va_cons (vg_val (nv 5)) (va_cons (vg_val (ve_tup (va_cons (vg_val ((ve_str rfl))) (va_cons (vg_val (nv 3)) (va_nil))))) (va_nil))))))) (va_nil)))))) (va_nil))))) (va_nil)))))) (va_nil)))))))))) mono_Lcounting rd_Lcounting
theorem sc_Lspin : FnScope ["_law_cell", "_law_many", "_law_words", "_law_k", "_law_rounds", "_law_found"] ["_law_cell", "_law_many"] (defScope s_Lspin) := ⟨rfl, rfl, rfl, by decide +kernel, rfl, by decide +kernel, by decide +kernel⟩
theorem F_Lspin {P : Program} {w : World} {K : PySem.W.Frag} {mg : Str → Option Value} {base : Heap} (c : Hd K mg) : Fv P w K mg base "_law_spin" 1 2 sp_Lspin :=
  Fv.mk2 (κ := [true, true]) (t := t_Lspin) c.f_Lspin sc_Lspin (fun F => F.bindsN fun _ _ _ _ _ _ us hl => match us, hl with | [_, _], _ => rfl) rfl (by decide)
    (fun f cdv A outer s H E hr => let sc := sc_Lspin; (vss_cons (sa 2 sc.nd (ve_still (ve_bin opr_add opn_add (vg_val (ve_lst (va_cons (vg_val ((ve_str rfl))) (va_nil)))) (vg_val (ve_lc (own := [("_law_k", 3)]) rfl sc.nd (blkOk_by (by first | rfl | decide +kernel)) (kap_of rfl) (vi_range1 rfl c.b_range (va_cons (vg_val (nv 1)) (va_nil))) (fun bi => vto_name (by decide) sc.nd rfl (by first | exact Or.inl rfl | exact Or.inr rfl) (ne_of_beq_false rfl)) (fun bi => vts_nil) (fun bi => ve_ix hr (vg_val (ve_lst (va_cons (vg_val ((ve_str rfl))) (va_cons (vg_val ((ve_str rfl))) (va_nil))))) (vg_val (ve_bin op_modN opn_mod (vg_val (ve_bin opr_div opn_div (vg_val (nv 0)) (vg_val (ve_bin opr_add opn_add (vg_val (ve_int)) (vg_val (ve_bin opr_mulA opn_mul (vg_val (nv 3)) (vg_val (nv 3)))))))) (vg_val (ve_int)))) (fun _ _ => rfl))))))) (vss_cons (vs_setLcF (own := [("_law_k", 3)]) (i := 4) rfl sc.nd (blkOk_by (by first | rfl | decide +kernel)) (kap_of rfl) (vi_range1 rfl c.b_range (va_cons (vg_val (ve_callB call_lenA opn_len rfl c.b_len rfl (va_cons (vg_val (nv 2)) (va_nil)))) (va_nil))) (fun bi => vto_name (by decide) sc.nd rfl (by first | exact Or.inl rfl | exact Or.inr rfl) (ne_of_beq_false rfl)) (fun bi => vts_one (vt_cmp (opr_eq hr) opn_eq (vg_val (ve_ix hr (vg_val (nv 2)) (vg_val (nv 3)) (fun _ _ => rfl))) (vg_val ((ve_str rfl))) rfl)) (fun bi => nv 3) rfl rfl (ne_of_beq_false rfl) (sw_true rfl rfl rfl (by decide +kernel))) (vss_cons (sa 5 sc.nd (ve_still (ve_lst (va_nil)))) (vss_cons (vs_if (vt_cmp (opr_eq hr) opn_eq (vg_val (ve_bin op_modN opn_mod (vg_val (nv 0)) (vg_val (ve_int)))) (vg_val (ve_int)) rfl) (vss_one (sa 5 sc.nd (ve_still (ve_lst (va_cons (vg_val (ve_tup (va_cons (vg_val ((ve_str rfl))) (va_cons (vg_val (ve_bin opr_add opn_add (vg_val (ve_int)) (vg_val (ve_ix hr (vg_val (nv 4)) (vg_val (ve_bin op_modN opn_mod (vg_val (ve_bin opr_div opn_div (vg_val (nv 0)) (vg_val (ve_int)))) (vg_val (ve_callB call_lenA opn_len rfl c.b_len rfl (va_cons (vg_val (nv 4)) (va_nil)))))) (fun _ _ => rfl))))) (va_nil))))) (va_nil)))))) (vss_nil)) (vss_cons (vs_if (vt_w (vw_and (vt_cmp (opr_eq hr) opn_eq (vg_val (ve_bin op_modN opn_mod (vg_val (nv 0)) (vg_val (ve_int)))) (vg_val (ve_int)) rfl) (vw_and1 (vt_cmp op_gt opn_gt (vg_val (nv 1)) (vg_val (ve_int)) rfl)))) (vss_one (sa 5 sc.nd (ve_still (ve_lst (va_cons (vg_val (ve_tup (va_cons (vg_val ((ve_str rfl))) (va_cons (vg_val (ve_bin opr_add opn_add (vg_val (ve_int)) (vg_val (ve_bin op_modN opn_mod (vg_val (ve_bin opr_div opn_div (vg_val (nv 0)) (vg_val (ve_int)))) (vg_val (nv 1)))))) (va_nil))))) (va_nil)))))) (vss_nil)) (vss_cons (vs_for (passes_of rfl) rfl (vi_rangeD rfl c.b_range (va_cons (vg_val (nv 1)) (va_cons (vg_val (ve_un un_neg opn_neg (vg_val (ve_int)))) (va_cons (vg_val (ve_un un_neg opn_neg (vg_val (ve_int)))) (va_nil))))) (tn 3 sc.nd) (vss_one (sa 5 sc.nd (ve_still (ve_lst (va_cons (vg_val (ve_tup (va_cons (vg_val (ve_ix hr (vg_val (nv 2)) (vg_val (nv 3)) (fun _ _ => rfl))) (va_cons (vg_val (ve_bin opr_add opn_add (vg_val (ve_int)) (vg_val (nv 3)))) (va_cons (vg_val (nv 5)) (va_nil)))))) (va_nil))))))) (vss_one (vs_ret (nv 5)))))))))) mono_Lspin rd_Lspin
theorem sc_Llast : FnScope ["_law_way", "_law_name", "_law_spin_here"] ["_law_way", "_law_name", "_law_spin_here"] (defScope s_Llast) := ⟨rfl, rfl, rfl, by decide +kernel, rfl, by decide +kernel, by decide +kernel⟩
theorem F_Llast {P : Program} {w : World} {K : PySem.W.Frag} {mg : Str → Option Value} {base : Heap} (c : Hd K mg) : Fv P w K mg base "_law_last" 1 3 sp_Llast :=
  Fv.mk2 (κ := [true, true, true]) (t := t_Llast) c.f_Llast sc_Llast (fun F => F.bindsN fun _ _ _ _ _ _ us hl => match us, hl with | [_, _, _], _ => rfl) rfl (by decide)
    (fun f cdv A outer s H E hr => let sc := sc_Llast; (vss_cons (vs_if (vt_cmp (opr_eq hr) opn_eq (vg_val (nv 0)) (vg_val (ve_int)) rfl) (vss_one (vs_ret (ve_lst (va_nil)))) (vss_nil)) (vss_cons (vs_if (vt_cmp (opr_eq hr) opn_eq (vg_val (nv 0)) (vg_val (ve_int)) rfl) (vss_one (vs_ret (ve_lst (va_cons (vg_val (ve_tup (va_cons (vg_val ((ve_str rfl))) (va_nil)))) (va_cons (vg_val (ve_tup (va_cons (vg_val ((ve_str rfl))) (va_cons (vg_val (nv 1)) (va_cons (vg_val (ve_int)) (va_cons (vg_val ((ve_str rfl))) (va_cons (vg_val (ve_int)) (va_nil)))))))) (va_nil)))))) (vss_nil)) (vss_cons (vs_if (vt_cmp (opr_eq hr) opn_eq (vg_val (nv 0)) (vg_val (ve_int)) rfl) (vss_one (vs_ret (ve_lst (va_cons (vg_val (ve_tup (va_cons (vg_val ((ve_str rfl))) (va_cons (vg_val (nv 1)) (va_cons (vg_val (nv 1)) (va_cons (vg_val ((ve_str rfl))) (va_cons (vg_val (ve_int)) (va_nil)))))))) (va_nil))))) (vss_nil)) (vss_cons (vs_if (vt_cmp (opr_eq hr) opn_eq (vg_val (nv 0)) (vg_val (ve_int)) rfl) (vss_one (vs_ret (ve_lst (va_cons (vg_val (ve_tup (va_cons (vg_val ((ve_str rfl))) (va_cons (vg_val ((ve_str rfl))) (va_cons (vg_val (ve_int)) (va_cons (vg_val ((ve_str rfl))) (va_cons (vg_val ((ve_str rfl))) (va_nil)))))))) (va_nil))))) (vss_nil)) (vss_one (vs_ret (nv 2)))))))) mono_Llast rd_Llast
theorem sc_Lwithin : FnScope ["_law_form", "_law_cell", "_law_many", "_law_k"] ["_law_form", "_law_cell", "_law_many"] (defScope s_Lwithin) := ⟨rfl, rfl, rfl, by decide +kernel, rfl, by decide +kernel, by decide +kernel⟩
theorem F_Lwithin {P : Program} {w : World} {K : PySem.W.Frag} {mg : Str → Option Value} {base : Heap} (c : Hd K mg) : Fv P w K mg base "_law_within" 1 3 sp_Lwithin :=
  Fv.mk2 (κ := [false, true, true]) (t := t_Lwithin) c.f_Lwithin sc_Lwithin (fun F => F.bindsN fun _ _ _ _ _ _ us hl => match us, hl with | [_, _, _], _ => rfl) rfl (by decide)
    (fun f cdv A outer s H E hr => let sc := sc_Lwithin; (vss_cons (vs_for (passes_of rfl) rfl (vi_range1 rfl c.b_range (va_cons (vg_val (nv 2)) (va_nil))) (tn 3 sc.nd) (vss_one (vs_if (vt_cmp (opr_eq hr) opn_eq (vg_val (ve_bin op_modN opn_mod (vg_val (ve_bin opr_div opn_div (vg_val (nv 1)) (vg_val (ve_bin opr_add opn_add (vg_val (ve_int)) (vg_val (ve_bin opr_mulA opn_mul (vg_val (nv 3)) (vg_val (nv 3)))))))) (vg_val (ve_int)))) (vg_val (ve_int)) rfl) (vss_one (sa 0 sc.nd (ve_still (ve_lst (va_cons (vg_val (ve_tup (va_cons (vg_val ((ve_str rfl))) (va_cons (vg_val (ve_bin opr_add opn_add (vg_val (ve_int)) (vg_val (nv 3)))) (va_cons (vg_val (nv 0)) (va_nil)))))) (va_nil)))))) (vss_one (sa 0 sc.nd (ve_still (ve_lst (va_cons (vg_val (ve_tup (va_cons (vg_val ((ve_str rfl))) (va_cons (vg_val (ve_bin opr_add opn_add (vg_val (ve_int)) (vg_val (nv 3)))) (va_cons (vg_val (ve_bin opr_add opn_add (vg_val (nv 0)) (vg_val (ve_lst (va_cons (vg_val (ve_tup (va_cons (vg_val ((ve_str rfl))) (va_cons (vg_val (ve_bin opr_add opn_add (vg_val (ve_int)) (vg_val (nv 3)))) (va_nil))))) (va_nil)))))) (va_nil)))))) (va_nil))))))))) (vss_one (vs_ret (nv 0))))) mono_Lwithin rd_Lwithin
theorem sc_Ldeeds : FnScope ["_law_name", "_law_start", "_law_many", "_law_most", "_law_deeds_here", "_law_k", "_law_now"] ["_law_name", "_law_start", "_law_many", "_law_most"] (defScope s_Ldeeds) := ⟨rfl, rfl, rfl, by decide +kernel, rfl, by decide +kernel, by decide +kernel⟩
theorem F_Ldeeds {P : Program} {w : World} {K : PySem.W.Frag} {mg : Str → Option Value} {base : Heap} (c : Hd K mg) : Fv P w K mg base "_law_deeds" 1 4 sp_Ldeeds :=
  Fv.mk2 (κ := [true, true, true, true]) (t := t_Ldeeds) c.f_Ldeeds sc_Ldeeds (fun F => F.bindsN fun _ _ _ _ _ _ us hl => match us, hl with | [_, _, _, _], _ => rfl) rfl (by decide)
    (fun f cdv A outer s H E hr => let sc := sc_Ldeeds; (vss_cons (sa 4 sc.nd (ve_lst (va_nil))) (vss_cons (vs_for (passes_of rfl) rfl (vi_range1 rfl c.b_range (va_cons (vg_val (ve_callB (call_min2 rfl) opn_min rfl c.b_min rfl (va_cons (vg_val (ve_bin opr_mulA opn_mul (vg_val (ve_int)) (vg_val (nv 2)))) (va_cons (vg_val (nv 3)) (va_nil))))) (va_nil))) (tn 5 sc.nd) (vss_cons (sa 6 sc.nd (ve_bin opr_add opn_add (vg_val (ve_bin opr_add opn_add (vg_val (nv 1)) (vg_val (ve_bin opr_div opn_div (vg_val (nv 5)) (vg_val (ve_int)))))) (vg_val (ve_int)))) (vss_one (vs_if (vt_cmp (opr_eq hr) opn_eq (vg_val (ve_bin op_modN opn_mod (vg_val (nv 5)) (vg_val (ve_int)))) (vg_val (ve_int)) rfl) (vss_one (vs_expr (m_app 4 (va_cons (vg_val (ve_tup (va_cons (vg_val ((ve_str rfl))) (va_cons (vg_val (nv 0)) (va_cons (vg_val (ve_bin op_sub opn_sub (vg_val (nv 6)) (vg_val (ve_int)))) (va_cons (vg_val ((ve_str rfl))) (va_cons (vg_val (ve_int)) (va_cons (vg_val (nv 6)) (va_nil))))))))) (va_nil))))) (vss_one (vs_expr (m_app 4 (va_cons (vg_val (ve_tup (va_cons (vg_val ((ve_str rfl))) (va_cons (vg_val (nv 6)) (va_cons (vg_val ((ve_str rfl))) (va_cons (vg_val (ve_bin opr_add opn_add (vg_val (nv 1)) (vg_val (nv 2)))) (va_cons (vg_val (ve_cmp op_lt opn_lt (vg_val (nv 6)) (vg_val (ve_bin opr_add opn_add (vg_val (nv 1)) (vg_val (nv 2)))) rfl)) (va_nil)))))))) (va_nil))))))))) (vss_one (vs_ret (nm 4)))))) mono_Ldeeds rd_Ldeeds
theorem sc_Lword : FnScope ["_law_way", "_law_many", "_law_most"] ["_law_way", "_law_many", "_law_most"] (defScope s_Lword) := ⟨rfl, rfl, rfl, by decide +kernel, rfl, by decide +kernel, by decide +kernel⟩
theorem F_Lword {P : Program} {w : World} {K : PySem.W.Frag} {mg : Str → Option Value} {base : Heap} (c : Hd K mg) : Fv P w K mg base "_law_word" 1 3 sp_Lword :=
  Fv.mk2 (κ := [true, true, true]) (t := t_Lword) c.f_Lword sc_Lword (fun F => F.bindsN fun _ _ _ _ _ _ us hl => match us, hl with | [_, _, _], _ => rfl) rfl (by decide)
    (fun f cdv A outer s H E hr => let sc := sc_Lword; (vss_cons (vs_if (vt_w (vw_or (vt_cmp op_gt opn_gt (vg_val (nv 0)) (vg_val (ve_int)) rfl) (vw_or1 (vt_cmp op_lt opn_lt (vg_val (nv 2)) (vg_val (ve_bin opr_mulA opn_mul (vg_val (ve_int)) (vg_val (nv 1)))) rfl)))) (vss_one (vs_ret ((ve_str rfl)))) (vss_nil)) (vss_cons (vs_if (vt_cmp op_lt opn_lt (vg_val (nv 0)) (vg_val (ve_int)) rfl) (vss_one (vs_ret ((ve_str rfl)))) (vss_nil)) (vss_one (vs_ret (ve_ix hr (vg_val (ve_lst (va_cons (vg_val ((ve_str rfl))) (va_cons (vg_val ((ve_str rfl))) (va_nil))))) (vg_val (ve_callTy call_int1 opn_int rfl c.b_int rfl (va_cons (vg_val (ve_cmp op_gt opn_gt (vg_val (nv 2)) (vg_val (ve_bin opr_mulA opn_mul (vg_val (ve_int)) (vg_val (nv 1)))) rfl)) (va_nil)))) (fun _ _ => rfl))))))) mono_Lword rd_Lword
theorem sc_Deeds_worth_of : FnScope ["self", "operand"] ["self", "operand"] (defScope s_Deeds_worth_of) := ⟨rfl, rfl, rfl, by decide +kernel, rfl, by decide +kernel, by decide +kernel⟩
theorem M_Deeds_worth_of {P : Program} {w : World} {K : PySem.W.Frag} {mg : Str → Option Value} {base : Heap} (c : Hd K mg) : Mv P w K mg base 0 "worth_of" 2 2 sp_Deeds_worth_of :=
  Mv.make (κ := [true, true]) (t := t_Deeds_worth_of) c.f_Deeds_worth_of c.me_Deeds_worth_of sc_Deeds_worth_of (fun F => F.bindsN fun _ _ _ _ _ _ us hl => match us, hl with | [_, _], _ => rfl) rfl (by decide)
    (fun f cdv A outer s H E hr => let sc := sc_Deeds_worth_of; (vss_one (vs_ret (ve_view (wv_call (F_worth c) mono_worth (hr.mono (by omega)) rfl rfl (wvs_cons (wv_name 1) (wvs_cons (wv_fld (wv_name 0) c.kl_Deeds c.na_Deeds_memory rfl) (wvs_nil)))))))) mono_Deeds_worth_of rd_Deeds_worth_of
theorem sc_Lmix : FnScope ["_law_script", "_law_k", "_law_turn"] ["_law_script", "_law_k"] (defScope s_Lmix) := ⟨rfl, rfl, rfl, by decide +kernel, rfl, by decide +kernel, by decide +kernel⟩
theorem F_Lmix {P : Program} {w : World} {K : PySem.W.Frag} {mg : Str → Option Value} {base : Heap} (c : Hd K mg) : Fv P w K mg base "_law_mix" 2 2 sp_Lmix :=
  Fv.mk2 (κ := [true, true]) (t := t_Lmix) c.f_Lmix sc_Lmix (fun F => F.bindsN fun _ _ _ _ _ _ us hl => match us, hl with | [_, _], _ => rfl) rfl (by decide)
    (fun f cdv A outer s H E hr => let sc := sc_Lmix; (vss_cons (vs_if (vt_cmp (opr_eq hr) opn_eq (vg_val (ve_callB call_lenA opn_len rfl c.b_len rfl (va_cons (vg_val (nv 0)) (va_nil)))) (vg_val (ve_int)) rfl) (vss_one (vs_ret (ve_bin op_modN opn_mod (vg_val (ve_bin opr_mulA opn_mul (vg_val (ve_bin opr_add opn_add (vg_val (ve_bin opr_mulA opn_mul (vg_val (nv 1)) (vg_val (nv 1)))) (vg_val (ve_int)))) (vg_val (ve_int)))) (vg_val (ve_int))))) (vss_nil)) (vss_cons (sa 2 sc.nd (ve_bin opr_div opn_div (vg_val (nv 1)) (vg_val (ve_callB call_lenA opn_len rfl c.b_len rfl (va_cons (vg_val (nv 0)) (va_nil)))))) (vss_one (vs_ret (ve_bin op_modN opn_mod (vg_val (ve_bin opr_mulA opn_mul (vg_val (ve_bin opr_add opn_add (vg_val (ve_bin op_modN opn_mod (vg_val (ve_call (F_Lraw c) mono_Lraw (hr.mono (by omega)) rfl rfl (va_cons (vg_val (nv 0)) (va_cons (vg_val (nv 1)) (va_nil))))) (vg_val (ve_int)))) (vg_val (ve_int)))) (vg_val (ve_bin opr_add opn_add (vg_val (ve_int)) (vg_val (ve_bin opr_mulA opn_mul (vg_val (ve_bin opr_mulA opn_mul (vg_val (ve_int)) (vg_val (nv 2)))) (vg_val (nv 2)))))))) (vg_val (ve_int)))))))) mono_Lmix rd_Lmix
theorem sc_Deeds_test_of : FnScope ["self", "one", "sign", "other", "here", "there", "truth"] ["self", "one", "sign", "other"] (defScope s_Deeds_test_of) := ⟨rfl, rfl, rfl, by decide +kernel, rfl, by decide +kernel, by decide +kernel⟩
theorem M_Deeds_test_of {P : Program} {w : World} {K : PySem.W.Frag} {mg : Str → Option Value} {base : Heap} (c : Hd K mg) : Mv P w K mg base 0 "test_of" 3 4 sp_Deeds_test_of :=
  Mv.make (κ := [true, true, true, true]) (t := t_Deeds_test_of) c.f_Deeds_test_of c.me_Deeds_test_of sc_Deeds_test_of (fun F => F.bindsN fun _ _ _ _ _ _ us hl => match us, hl with | [_, _, _, _], _ => rfl) rfl (by decide)
    (fun f cdv A outer s H E hr => let sc := sc_Deeds_test_of; (vss_cons (sa 4 sc.nd (ve_meth (i := 0) (M_Deeds_worth_of c) mono_Deeds_worth_of c.kl_Deeds rfl (hr.mono (by omega)) rfl (by first | exact Or.inl rfl | exact Or.inr (Or.inl rfl) | exact Or.inr (Or.inr rfl)) rfl (va_cons (vg_val (nv 1)) (va_nil)))) (vss_cons (sa 5 sc.nd (ve_meth (i := 0) (M_Deeds_worth_of c) mono_Deeds_worth_of c.kl_Deeds rfl (hr.mono (by omega)) rfl (by first | exact Or.inl rfl | exact Or.inr (Or.inl rfl) | exact Or.inr (Or.inr rfl)) rfl (va_cons (vg_val (nv 3)) (va_nil)))) (vss_cons (sa 6 sc.nd (ve_call (F_holds c) mono_holds (hr.mono (by omega)) rfl rfl (va_cons (vg_val (nv 2)) (va_cons (vg_val (nv 4)) (va_cons (vg_val (nv 5)) (va_nil)))))) (vss_cons (vs_expr (mp_app (vp_fd (np 0) c.kl_Deeds c.na_Deeds_done rfl) (vaq_cons (vq_tup (vaq_cons ((vq_str rfl)) (vaq_cons (nq 4) (vaq_cons (nq 2) (vaq_cons (nq 5) (vaq_cons (nq 6) (vaq_nil))))))) (vaq_nil)))) (vss_one (vs_ret (nv 6)))))))) mono_Deeds_test_of rd_Deeds_test_of
theorem sc_made : FnScope ["sign", "one", "other", "quotient", "rest"] ["sign", "one", "other"] (defScope s_made) := ⟨rfl, rfl, rfl, by decide +kernel, rfl, by decide +kernel, by decide +kernel⟩
theorem F_made {P : Program} {w : World} {K : PySem.W.Frag} {mg : Str → Option Value} {base : Heap} (c : Hd K mg) : Fv P w K mg base "made" 3 3 sp_made :=
  Fv.mk2 (κ := [true, true, true]) (t := t_made) c.f_made sc_made (fun F => F.bindsN fun _ _ _ _ _ _ us hl => match us, hl with | [_, _, _], _ => rfl) rfl (by decide)
    (fun f cdv A outer s H E hr => let sc := sc_made; (vss_cons (vs_if (vt_cmp (opr_eq hr) opn_eq (vg_val (nv 0)) (vg_val ((ve_str rfl))) rfl) (vss_one (vs_ret (ve_bin opr_add opn_add (vg_val (nv 1)) (vg_val (nv 2))))) (vss_nil)) (vss_cons (vs_if (vt_cmp (opr_eq hr) opn_eq (vg_val (nv 0)) (vg_val ((ve_str rfl))) rfl) (vss_one (vs_ret (ve_bin op_sub opn_sub (vg_val (nv 1)) (vg_val (nv 2))))) (vss_nil)) (vss_cons (vs_if (vt_cmp (opr_eq hr) opn_eq (vg_val (nv 0)) (vg_val ((ve_str rfl))) rfl) (vss_one (vs_ret (ve_bin op_and opn_and (vg_val (nv 1)) (vg_val (nv 2))))) (vss_nil)) (vss_cons (vs_if (vt_cmp (opr_eq hr) opn_eq (vg_val (nv 0)) (vg_val ((ve_str rfl))) rfl) (vss_one (vs_ret (ve_bin op_xor opn_xor (vg_val (nv 1)) (vg_val (nv 2))))) (vss_nil)) (vss_cons (vs_if (vt_cmp (opr_eq hr) opn_eq (vg_val (nv 2)) (vg_val (ve_int)) rfl) (vss_one (vs_raise (s := "ByNought") rfl (F_ini (P := P) (w := w) (base := base) c) (exOk_g c.ex) (exOk_o c.ex "ByNought" (by decide)) rfl (hr.mono (by omega)) rfl c.gx_ByNought)) (vss_nil)) (vss_cons (vs_asgT (ve_callB call_divmodA opn_divmod rfl c.b_divmod rfl (va_cons (vg_val (nv 1)) (va_cons (vg_val (nv 2)) (va_nil)))) (vt_names (n := 0) rfl (vns_cons (i := 3) sc.nd rfl (by first | exact Or.inl rfl | exact Or.inr rfl) (ne_of_beq_false rfl) (vns_cons (i := 4) sc.nd rfl (by first | exact Or.inl rfl | exact Or.inr rfl) (ne_of_beq_false rfl) (vns_nil))))) (vss_cons (vs_if (vt_cmp (opr_eq hr) opn_eq (vg_val (nv 0)) (vg_val ((ve_str rfl))) rfl) (vss_one (vs_ret (nv 3))) (vss_nil)) (vss_one (vs_ret (nv 4))))))))))) mono_made rd_made
theorem sc_Deeds_sum_of : FnScope ["self", "place", "one", "sign", "other", "here", "there", "found"] ["self", "place", "one", "sign", "other"] (defScope s_Deeds_sum_of) := ⟨rfl, rfl, rfl, by decide +kernel, rfl, by decide +kernel, by decide +kernel⟩
theorem M_Deeds_sum_of {P : Program} {w : World} {K : PySem.W.Frag} {mg : Str → Option Value} {base : Heap} (c : Hd K mg) : Mv P w K mg base 0 "sum_of" 4 5 sp_Deeds_sum_of :=
  Mv.make (κ := [true, true, true, true, true]) (t := t_Deeds_sum_of) c.f_Deeds_sum_of c.me_Deeds_sum_of sc_Deeds_sum_of (fun F => F.bindsN fun _ _ _ _ _ _ us hl => match us, hl with | [_, _, _, _, _], _ => rfl) rfl (by decide)
    (fun f cdv A outer s H E hr => let sc := sc_Deeds_sum_of; (vss_cons (sa 5 sc.nd (ve_meth (i := 0) (M_Deeds_worth_of c) mono_Deeds_worth_of c.kl_Deeds rfl (hr.mono (by omega)) rfl (by first | exact Or.inl rfl | exact Or.inr (Or.inl rfl) | exact Or.inr (Or.inr rfl)) rfl (va_cons (vg_val (nv 2)) (va_nil)))) (vss_cons (sa 6 sc.nd (ve_meth (i := 0) (M_Deeds_worth_of c) mono_Deeds_worth_of c.kl_Deeds rfl (hr.mono (by omega)) rfl (by first | exact Or.inl rfl | exact Or.inr (Or.inl rfl) | exact Or.inr (Or.inr rfl)) rfl (va_cons (vg_val (nv 4)) (va_nil)))) (vss_cons (sa 7 sc.nd (ve_call (F_made c) mono_made (hr.mono (by omega)) rfl rfl (va_cons (vg_val (nv 3)) (va_cons (vg_val (nv 5)) (va_cons (vg_val (nv 6)) (va_nil)))))) (vss_cons (vs_expr (mp_app (vp_fd (np 0) c.kl_Deeds c.na_Deeds_done rfl) (vaq_cons (vq_tup (vaq_cons ((vq_str rfl)) (vaq_cons (vq_view (wv_met (M_Deeds_name_of c) mono_Deeds_name_of c.kl_Deeds rfl (hr.mono (by omega)) (wv_name 0) rfl (wvs_cons (wv_name 1) (wvs_nil)))) (vaq_cons (nq 5) (vaq_cons (nq 3) (vaq_cons (nq 6) (vaq_cons (nq 7) (vaq_nil)))))))) (vaq_nil)))) (vss_one (vs_set hr (nv 7) (vp_fd (np 0) c.kl_Deeds c.na_Deeds_memory rfl) (nq 1)))))))) mono_Deeds_sum_of rd_Deeds_sum_of
theorem sc_run_round : FnScope ["statement", "deeds", "many", "goes"] ["statement", "deeds"] (defScope s_run_round) := ⟨rfl, rfl, rfl, by decide +kernel, rfl, by decide +kernel, by decide +kernel⟩
theorem F_run_round {P : Program} {w : World} {K : PySem.W.Frag} {mg : Str → Option Value} {base : Heap} (c : Hd K mg) (n : Nat) (ih : Fv P w K mg base "run_list" (5 + 3 * n) 2 (sp_run_list n)) : Fv P w K mg base "run_round" (5 + 3 * n + 1) 2 (sp_run_round n) :=
  Fv.mk2 (k := 5 + 3 * n + 0) (κ := [true, true]) (t := t_run_round n) c.f_run_round sc_run_round (fun F => F.bindsN fun _ _ _ _ _ _ us hl => match us, hl with | [_, _], _ => rfl) rfl (by decide)
    (fun f cdv A outer s H E hr => let sc := sc_run_round; (vss_one (vs_while (passes_of rfl) (vt_val (ve_bl)) (vss_cons (sa 2 sc.nd (ve_view (wv_callB call_lenA opn_len rfl c.b_len rfl (wvs_cons (wv_fld (wv_name 1) c.kl_Deeds c.na_Deeds_done rfl) (wvs_nil))))) (vss_cons (sa 3 sc.nd (ve_call ih (mono_run_list n) (hr.mono (by omega)) rfl rfl (va_cons (vg_val (ve_ix hr (vg_val (nv 0)) (vg_val (ve_int)) (fun _ _ => rfl))) (al 1 (va_nil))))) (vss_cons (vs_if (vt_cmp (opr_eq hr) opn_eq (vg_val (nv 3)) (vg_val (ve_tup (va_cons (vg_val ((ve_str rfl))) (va_cons (vg_val (ve_ix hr (vg_val (nv 0)) (vg_val (ve_int)) (fun _ _ => rfl))) (va_nil))))) rfl) (vss_one (vs_ret (ve_non))) (vss_nil)) (vss_cons (vs_if (vt_w (vw_and (vt_cmp op_notN opn_notN (vg_val (nv 3)) (vg_val ve_non) rfl) (vw_and1 (vt_cmp (opr_ne hr) opn_ne (vg_val (nv 3)) (vg_val (ve_tup (va_cons (vg_val ((ve_str rfl))) (va_cons (vg_val (ve_ix hr (vg_val (nv 0)) (vg_val (ve_int)) (fun _ _ => rfl))) (va_nil))))) rfl)))) (vss_one (vs_ret (nv 3))) (vss_nil)) (vss_one (vs_if (vt_cmpW (opr_eq hr) opn_eq (wv_callB call_lenA opn_len rfl c.b_len rfl (wvs_cons (wv_fld (wv_name 1) c.kl_Deeds c.na_Deeds_done rfl) (wvs_nil))) (wv_name 2) rfl) (vss_one (vs_ret (ve_tup (va_cons (vg_val ((ve_str rfl))) (va_nil))))) (vss_nil)))))))))) (mono_run_round n) (rd_run_round n)
theorem sc_run_statement : FnScope ["statement", "deeds", "goes"] ["statement", "deeds"] (defScope s_run_statement) := ⟨rfl, rfl, rfl, by decide +kernel, rfl, by decide +kernel, by decide +kernel⟩
theorem F_run_statement {P : Program} {w : World} {K : PySem.W.Frag} {mg : Str → Option Value} {base : Heap} (c : Hd K mg) (n : Nat) (ih : Fv P w K mg base "run_list" (5 + 3 * n) 2 (sp_run_list n)) : Fv P w K mg base "run_statement" (5 + 3 * n + 2) 2 (sp_run_statement n) :=
  Fv.mk2 (k := 5 + 3 * n + 1) (κ := [true, true]) (t := t_run_statement n) c.f_run_statement sc_run_statement (fun F => F.bindsN fun _ _ _ _ _ _ us hl => match us, hl with | [_, _], _ => rfl) rfl (by decide)
    (fun f cdv A outer s H E hr => let sc := sc_run_statement; (vss_cons (vs_if (vt_cmp (opr_eq hr) opn_eq (vg_val (ve_ix hr (vg_val (nv 0)) (vg_val (ve_int)) (fun _ _ => rfl))) (vg_val ((ve_str rfl))) rfl) (vss_one (vs_ret (ve_call (F_run_round c n ih) (mono_run_round n) (hr.mono (by omega)) rfl rfl (va_cons (vg_val (nv 0)) (al 1 (va_nil)))))) (vss_nil)) (vss_cons (vs_if (vt_cmp (opr_eq hr) opn_eq (vg_val (ve_ix hr (vg_val (nv 0)) (vg_val (ve_int)) (fun _ _ => rfl))) (vg_val ((ve_str rfl))) rfl) (vss_cons (sa 2 sc.nd (ve_call ih (mono_run_list n) (hr.mono (by omega)) rfl rfl (va_cons (vg_val (ve_ix hr (vg_val (nv 0)) (vg_val (ve_int)) (fun _ _ => rfl))) (al 1 (va_nil))))) (vss_cons (vs_if (vt_cmp (opr_eq hr) opn_eq (vg_val (nv 2)) (vg_val (ve_tup (va_cons (vg_val ((ve_str rfl))) (va_cons (vg_val (ve_ix hr (vg_val (nv 0)) (vg_val (ve_int)) (fun _ _ => rfl))) (va_nil))))) rfl) (vss_one (vs_ret (ve_non))) (vss_nil)) (vss_one (vs_ret (nv 2))))) (vss_nil)) (vss_cons (vs_if (vt_w (vw_and (vt_cmp (opr_ne hr) opn_ne (vg_val (ve_ix hr (vg_val (nv 0)) (vg_val (ve_int)) (fun _ _ => rfl))) (vg_val ((ve_str rfl))) rfl) (vw_and1 (vt_cmp (opr_ne hr) opn_ne (vg_val (ve_ix hr (vg_val (nv 0)) (vg_val (ve_int)) (fun _ _ => rfl))) (vg_val ((ve_str rfl))) rfl)))) (vss_one (vs_ret (nv 0))) (vss_nil)) (vss_cons (vs_if (vt_val (ve_meth0 (i := 1) (M_Deeds_full c) mono_Deeds_full c.kl_Deeds rfl (hr.mono (by omega)) rfl (by first | exact Or.inl rfl | exact Or.inr (Or.inl rfl) | exact Or.inr (Or.inr rfl)))) (vss_one (vs_ret (ve_tup (va_cons (vg_val ((ve_str rfl))) (va_nil))))) (vss_nil)) (vss_cons (vs_if (vt_cmp (opr_eq hr) opn_eq (vg_val (ve_ix hr (vg_val (nv 0)) (vg_val (ve_int)) (fun _ _ => rfl))) (vg_val ((ve_str rfl))) rfl) (vss_cons (vs_expr (ve_meth (i := 1) (M_Deeds_sum_of c) mono_Deeds_sum_of c.kl_Deeds rfl (hr.mono (by omega)) rfl (by first | exact Or.inl rfl | exact Or.inr (Or.inl rfl) | exact Or.inr (Or.inr rfl)) rfl (va_cons (vg_val (ve_ix hr (vg_val (nv 0)) (vg_val (ve_int)) (fun _ _ => rfl))) (va_cons (vg_val (ve_ix hr (vg_val (nv 0)) (vg_val (ve_int)) (fun _ _ => rfl))) (va_cons (vg_val (ve_ix hr (vg_val (nv 0)) (vg_val (ve_int)) (fun _ _ => rfl))) (va_cons (vg_val (ve_ix hr (vg_val (nv 0)) (vg_val (ve_int)) (fun _ _ => rfl))) (va_nil))))))) (vss_one (vs_ret (ve_non)))) (vss_nil)) (vss_cons (vs_if (vt_val (ve_meth (i := 1) (M_Deeds_test_of c) mono_Deeds_test_of c.kl_Deeds rfl (hr.mono (by omega)) rfl (by first | exact Or.inl rfl | exact Or.inr (Or.inl rfl) | exact Or.inr (Or.inr rfl)) rfl (va_cons (vg_val (ve_ix hr (vg_val (nv 0)) (vg_val (ve_int)) (fun _ _ => rfl))) (va_cons (vg_val (ve_ix hr (vg_val (nv 0)) (vg_val (ve_int)) (fun _ _ => rfl))) (va_cons (vg_val (ve_ix hr (vg_val (nv 0)) (vg_val (ve_int)) (fun _ _ => rfl))) (va_nil)))))) (vss_one (vs_ret (ve_call ih (mono_run_list n) (hr.mono (by omega)) rfl rfl (va_cons (vg_val (ve_ix hr (vg_val (nv 0)) (vg_val (ve_int)) (fun _ _ => rfl))) (al 1 (va_nil)))))) (vss_nil)) (vss_one (vs_ret (ve_call ih (mono_run_list n) (hr.mono (by omega)) rfl rfl (va_cons (vg_val (ve_ix hr (vg_val (nv 0)) (vg_val (ve_int)) (fun _ _ => rfl))) (al 1 (va_nil))))))))))))) (mono_run_statement n) (rd_run_statement n)
theorem sc_Lalike : FnScope ["_law_found", "_law_due", "_law_one", "_law_other"] ["_law_found", "_law_due"] (defScope s_Lalike) := ⟨rfl, rfl, rfl, by decide +kernel, rfl, by decide +kernel, by decide +kernel⟩
theorem F_Lalike {P : Program} {w : World} {K : PySem.W.Frag} {mg : Str → Option Value} {base : Heap} (c : Hd K mg) : ∀ n, Fv P w K mg base "_law_alike" (1 + 1 * n) 2 (sp_Lalike n)
  | 0 => Fv.mk2 (k := 0) (κ := [true, true]) (t := vNever) c.f_Lalike sc_Lalike (fun F => F.bindsN fun _ _ _ _ _ _ us hl => match us, hl with | [_, _], _ => rfl) rfl (by decide) (fun f cdv A outer s H E hr => vss_never) (mono_Lalike 0) (fun _ _ _ _ h => h.elim)
  | n + 1 => Fv.mk2 (k := 1 + 1 * n) (κ := [true, true]) (t := t_Lalike n) c.f_Lalike sc_Lalike (fun F => F.bindsN fun _ _ _ _ _ _ us hl => match us, hl with | [_, _], _ => rfl) rfl (by decide)
    (fun f cdv A outer s H E hr => let sc := sc_Lalike; let ih := F_Lalike (P := P) (w := w) (base := base) c n; (vss_cons (vs_if (vt_val (ve_callB call_isi opn_isi rfl c.b_isinstance rfl (va_cons (vg_val (nv 1)) (va_cons (vg_val ((ve_ty rfl c.b_bool rfl))) (va_nil))))) (vss_one (vs_ret (ve_and (ve_callB call_isi opn_isi rfl c.b_isinstance rfl (va_cons (vg_val (nv 0)) (va_cons (vg_val ((ve_ty rfl c.b_bool rfl))) (va_nil)))) (ve_one (ve_cmp (opr_eq hr) opn_eq (vg_val (nv 0)) (vg_val (nv 1)) rfl))))) (vss_nil)) (vss_cons (vs_if (vt_val (ve_callB call_isi opn_isi rfl c.b_isinstance rfl (va_cons (vg_val (nv 1)) (va_cons (vg_val ((ve_ty rfl c.b_int rfl))) (va_nil))))) (vss_one (vs_ret (ve_and (ve_callB call_isi opn_isi rfl c.b_isinstance rfl (va_cons (vg_val (nv 0)) (va_cons (vg_val ((ve_ty rfl c.b_int rfl))) (va_nil)))) (ve_and (ve_not (ve_callB call_isi opn_isi rfl c.b_isinstance rfl (va_cons (vg_val (nv 0)) (va_cons (vg_val ((ve_ty rfl c.b_bool rfl))) (va_nil))))) (ve_one (ve_cmp (opr_eq hr) opn_eq (vg_val (nv 0)) (vg_val (nv 1)) rfl)))))) (vss_nil)) (vss_cons (vs_if (vt_val (ve_callB call_isi opn_isi rfl c.b_isinstance rfl (va_cons (vg_val (nv 1)) (va_cons (vg_val ((ve_ty rfl c.b_str rfl))) (va_nil))))) (vss_one (vs_ret (ve_and (ve_callB call_isi opn_isi rfl c.b_isinstance rfl (va_cons (vg_val (nv 0)) (va_cons (vg_val ((ve_ty rfl c.b_str rfl))) (va_nil)))) (ve_one (ve_cmp (opr_eq hr) opn_eq (vg_val (nv 0)) (vg_val (nv 1)) rfl))))) (vss_nil)) (vss_cons (vs_if (vt_w (vw_and (vt_val (ve_callB call_isi opn_isi rfl c.b_isinstance rfl (va_cons (vg_val (nv 1)) (va_cons (vg_val ((ve_ty rfl c.b_list rfl))) (va_nil))))) (vw_and1 (vt_not (vt_val (ve_callB call_isi opn_isi rfl c.b_isinstance rfl (va_cons (vg_val (nv 0)) (va_cons (vg_val ((ve_ty rfl c.b_list rfl))) (va_nil))))))))) (vss_one (vs_ret (ve_bl))) (vss_nil)) (vss_cons (vs_if (vt_w (vw_and (vt_val (ve_callB call_isi opn_isi rfl c.b_isinstance rfl (va_cons (vg_val (nv 1)) (va_cons (vg_val ((ve_ty rfl c.b_tuple rfl))) (va_nil))))) (vw_and1 (vt_not (vt_val (ve_callB call_isi opn_isi rfl c.b_isinstance rfl (va_cons (vg_val (nv 0)) (va_cons (vg_val ((ve_ty rfl c.b_tuple rfl))) (va_nil))))))))) (vss_one (vs_ret (ve_bl))) (vss_nil)) (vss_cons (vs_if (vt_cmp (opr_ne hr) opn_ne (vg_val (ve_callB call_lenA opn_len rfl c.b_len rfl (va_cons (vg_val (nv 0)) (va_nil)))) (vg_val (ve_callB call_lenA opn_len rfl c.b_len rfl (va_cons (vg_val (nv 1)) (va_nil)))) rfl) (vss_one (vs_ret (ve_bl))) (vss_nil)) (vss_cons (vs_for (passes_of rfl) rfl (vi_zipA rfl c.b_zip (va_cons (vg_val (nv 0)) (va_cons (vg_val (nv 1)) (va_nil)))) (vt_names (n := 0) rfl (vns_cons (i := 2) sc.nd rfl (by first | exact Or.inl rfl | exact Or.inr rfl) (ne_of_beq_false rfl) (vns_cons (i := 3) sc.nd rfl (by first | exact Or.inl rfl | exact Or.inr rfl) (ne_of_beq_false rfl) (vns_nil)))) (vss_one (vs_if (vt_not (vt_val (ve_call ih (mono_Lalike n) (hr.mono (by omega)) rfl rfl (va_cons (vg_val (nv 2)) (va_cons (vg_val (nv 3)) (va_nil)))))) (vss_one (vs_ret (ve_bl))) (vss_nil)))) (vss_one (vs_ret (ve_bl))))))))))) (mono_Lalike (n + 1)) (rd_Lalike n) |>.mono (by omega)
theorem sc_Lsame_memory : FnScope ["_law_found", "_law_due", "_law_name"] ["_law_found", "_law_due"] (defScope s_Lsame_memory) := ⟨rfl, rfl, rfl, by decide +kernel, rfl, by decide +kernel, by decide +kernel⟩
theorem F_Lsame_memory {P : Program} {w : World} {K : PySem.W.Frag} {mg : Str → Option Value} {base : Heap} (c : Hd K mg) : Fv P w K mg base "_law_same_memory" 10 2 sp_Lsame_memory :=
  Fv.mk2 (κ := [true, true]) (t := t_Lsame_memory) c.f_Lsame_memory sc_Lsame_memory (fun F => F.bindsN fun _ _ _ _ _ _ us hl => match us, hl with | [_, _], _ => rfl) rfl (by decide)
    (fun f cdv A outer s H E hr => let sc := sc_Lsame_memory; (vss_cons (vs_if (vt_w (vw_or (vt_not (vt_val (ve_callB call_isi opn_isi rfl c.b_isinstance rfl (va_cons (vg_val (nv 0)) (va_cons (vg_val ((ve_ty rfl c.b_dict rfl))) (va_nil)))))) (vw_or1 (vt_cmp (opr_ne hr) opn_ne (vg_val (ve_callB call_lenA opn_len rfl c.b_len rfl (va_cons (vg_val (nv 0)) (va_nil)))) (vg_val (ve_callB call_lenA opn_len rfl c.b_len rfl (va_cons (vg_val (nv 1)) (va_nil)))) rfl)))) (vss_one (vs_ret (ve_bl))) (vss_nil)) (vss_cons (vs_forKeys (i := 1) (passes_of rfl) rfl rfl (by first | exact Or.inl rfl | exact Or.inr (Or.inl rfl) | exact Or.inr (Or.inr rfl)) (tn 2 sc.nd) (vss_one (vs_if (vt_w (vw_or (vt_cmp (opr_notIn hr) opn_in (vg_val (nv 2)) (vg_val (nv 0)) rfl) (vw_or1 (vt_not (vt_val (ve_call (F_Lalike c 8) (mono_Lalike 8) (hr.mono (by omega)) rfl rfl (va_cons (vg_val (ve_ix hr (vg_val (nv 0)) (vg_val (nv 2)) (fun _ _ => rfl))) (va_cons (vg_val (ve_ix hr (vg_val (nv 1)) (vg_val (nv 2)) (fun _ _ => rfl))) (va_nil))))))))) (vss_one (vs_ret (ve_bl))) (vss_nil)))) (vss_one (vs_ret (ve_bl)))))) mono_Lsame_memory rd_Lsame_memory
theorem sc_run_list : FnScope ["form", "deeds", "statement", "goes"] ["form", "deeds"] (defScope s_run_list) := ⟨rfl, rfl, rfl, by decide +kernel, rfl, by decide +kernel, by decide +kernel⟩
theorem F_run_list {P : Program} {w : World} {K : PySem.W.Frag} {mg : Str → Option Value} {base : Heap} (c : Hd K mg) : ∀ n, Fv P w K mg base "run_list" (5 + 3 * n) 2 (sp_run_list n)
  | 0 => Fv.mk2 (k := 4) (κ := [true, true]) (t := vNever) c.f_run_list sc_run_list (fun F => F.bindsN fun _ _ _ _ _ _ us hl => match us, hl with | [_, _], _ => rfl) rfl (by decide) (fun f cdv A outer s H E hr => vss_never) (mono_run_list 0) (fun _ _ _ _ h => h.elim)
  | n + 1 => Fv.mk2 (k := 7 + 3 * n) (κ := [true, true]) (t := t_run_list n) c.f_run_list sc_run_list (fun F => F.bindsN fun _ _ _ _ _ _ us hl => match us, hl with | [_, _], _ => rfl) rfl (by decide)
    (fun f cdv A outer s H E hr => let sc := sc_run_list; let ih := F_run_list (P := P) (w := w) (base := base) c n; (vss_cons (vs_for (passes_of rfl) rfl (vi_lst (nv 0)) (tn 2 sc.nd) (vss_cons (sa 3 sc.nd (ve_call (F_run_statement c n ih) (mono_run_statement n) (hr.mono (by omega)) rfl rfl (va_cons (vg_val (nv 2)) (al 1 (va_nil))))) (vss_one (vs_if (vt_cmp op_notN opn_notN (vg_val (nv 3)) (vg_val ve_non) rfl) (vss_one (vs_ret (nv 3))) (vss_nil))))) (vss_one (vs_ret (ve_non))))) (mono_run_list (n + 1)) (rd_run_list n) |>.mono (by omega)
theorem sc_run_form : FnScope ["form", "memory", "most", "deeds", "goes"] ["form", "memory", "most"] (defScope s_run_form) := ⟨rfl, rfl, rfl, by decide +kernel, rfl, by decide +kernel, by decide +kernel⟩
theorem F_run_form_d {P : Program} {w : World} {K : PySem.W.Frag} {mg : Str → Option Value} {base : Heap} (c : Hd K mg) : Fd P w K mg base "run_form" 100 276 3 sp_run_form :=
  Fd.make (κ := [true, true, true]) (t := t_run_form) c.f_run_form sc_run_form (fun F => ⟨F.binds1 3 1 (by simp) rfl fun _ _ _ _ _ _ _ us its h1 h2 => (match us, h1, its, h2 with | [_, _, _], _, [_], _ => ⟨_, rfl, rfl⟩), F.binds1 2 0 (by simp) rfl fun _ _ _ _ _ _ _ us its h1 h2 => (match us, h1, its, h2 with | [_, _], _, [_], _ => ⟨_, rfl, rfl⟩)⟩) rfl (by decide)
    (fun f cdv A outer s H E hr => let sc := sc_run_form; (vss_cons (sa 3 sc.nd (ve_newN (M_Deeds_init c) mono_Deeds_init (hr.mono (by omega)) rfl c.gc_Deeds rfl (va_cons (vg_val (nv 1)) (va_cons (vg_val (nv 2)) (va_nil))))) (vss_one (vs_tryE (vss_cons (vs_if (vt_cmp (opr_eq hr) opn_eq (vg_val (nv 4)) (vg_val (ve_tup (va_cons (vg_val ((ve_str rfl))) (va_nil)))) rfl) (vss_one (vs_ret (ve_meth (i := 3) (M_Deeds_told c) mono_Deeds_told c.kl_Deeds rfl (hr.mono (by omega)) rfl (by first | exact Or.inl rfl | exact Or.inr (Or.inl rfl) | exact Or.inr (Or.inr rfl)) rfl (va_cons (vg_val ((ve_str rfl))) (va_nil))))) (vss_nil)) (vss_one (vs_ret (ve_meth (i := 3) (M_Deeds_told c) mono_Deeds_told c.kl_Deeds rfl (hr.mono (by omega)) rfl (by first | exact Or.inl rfl | exact Or.inr (Or.inl rfl) | exact Or.inr (Or.inr rfl)) rfl (va_cons (vg_val ((ve_str rfl))) (va_nil)))))) rfl rfl ⟨rfl, by decide, .inl c.gx_ByNought⟩ (exOk_c c.ex (p := (.own "ByNought", xt_ByNought)) ((.head _)) fun _ _ h => xtab_mem h) (fun xn xe xh => vss_one (sa 4 sc.nd (ve_call (F_run_list c 90) (mono_run_list 90) (hr.mono (by omega)) rfl rfl (va_cons (vg_val (nv 0)) (al 3 (va_nil)))))) (fun xa xo xp hcc => vss_one (vs_ret (ve_methH (i := 3) (Mh_Deeds_told c) mono_Deeds_told c.kl_Deeds rfl (roomS hr (by omega)) hcc rfl (by first | exact Or.inl rfl | exact Or.inr (Or.inl rfl) | exact Or.inr (Or.inr rfl)) rfl (va_cons (vg_val ((ve_str rfl))) (va_nil))))))))) mono_run_form rd_run_form
theorem F_run_form {P : Program} {w : World} {K : PySem.W.Frag} {mg : Str → Option Value} {base : Heap} (c : Hd K mg) : Fv P w K mg base "run_form" 276 3 sp_run_form := (F_run_form_d c).fv
theorem sc_law : FnScope ["_law_script", "_law_name", "_law_start", "_law_many", "_law_limit", "_law_form", "_law_way", "_law_spin_here", "_law_memory", "_law_choice", "_law_most", "_law_found", "_law_deeds_here", "_law_behind"] ["_law_script"] (defScope s_law) := ⟨rfl, rfl, rfl, by decide +kernel, rfl, by decide +kernel, by decide +kernel⟩
theorem bd_law {K : PySem.W.Frag} {f : Addr} {fd : FuncData} (F : FunD K "law" "law" (defArgs s_law) (defBody s_law) (defScope s_law) [] [] f fd) (s : Shared) (u : Value) : BindsTo s fd ⟨[u], []⟩ [("_law_script", u)] := FunD.bindsA (ps := ["_law_script"]) F (fun _ _ _ _ _ _ us hl => match us, hl with | [_], _ => rfl) s [u] rfl
theorem ok_law {P : Program} {w : World} {K : PySem.W.Frag} {mg : Str → Option Value} {base : Heap} (c : Hd K mg) {f : Addr} {fd : FuncData} (F : FunD K "law" "law" (defArgs s_law) (defBody s_law) (defScope s_law) [] [] f fd) : VL.FnOk P w K mg base (VL.CX P w) 277 f fd ["_law_script"] (Lift K 1 sp_law) :=
  fn_ok (κ := [true]) (t := t_law) F sc_law rfl (by decide)
    (fun cdv A outer s H E hr => let sc := sc_law; (vss_cons (sa 1 sc.nd (ve_ix hr (vg_val (ve_lst (va_cons (vg_val ((ve_str rfl))) (va_cons (vg_val ((ve_str rfl))) (va_cons (vg_val ((ve_str rfl))) (va_cons (vg_val ((ve_str rfl))) (va_nil))))))) (vg_val (ve_bin op_modN opn_mod (vg_val (ve_bin opr_div opn_div (vg_val (ve_call (F_Lmix c) mono_Lmix (hr.mono (by omega)) rfl rfl (va_cons (vg_val (nv 0)) (va_cons (vg_val (ve_int)) (va_nil))))) (vg_val (ve_int)))) (vg_val (ve_int)))) (fun _ _ => rfl))) (vss_cons (sa 2 sc.nd (ve_bin op_sub opn_sub (vg_val (ve_bin op_modN opn_mod (vg_val (ve_call (F_Lraw c) mono_Lraw (hr.mono (by omega)) rfl rfl (va_cons (vg_val (nv 0)) (va_cons (vg_val (ve_int)) (va_nil))))) (vg_val (ve_bin opr_add opn_add (vg_val (ve_bin opr_mulA opn_mul (vg_val (ve_int)) (vg_val (ve_bin op_pow opn_pow (vg_val (ve_int)) (vg_val (ve_int)))))) (vg_val (ve_int)))))) (vg_val (ve_bin op_pow opn_pow (vg_val (ve_int)) (vg_val (ve_int)))))) (vss_cons (vs_if (vt_cmp (opr_eq hr) opn_eq (vg_val (ve_bin op_modN opn_mod (vg_val (ve_bin opr_div opn_div (vg_val (ve_call (F_Lmix c) mono_Lmix (hr.mono (by omega)) rfl rfl (va_cons (vg_val (nv 0)) (va_cons (vg_val (ve_int)) (va_nil))))) (vg_val (ve_int)))) (vg_val (ve_int)))) (vg_val (ve_int)) rfl) (vss_one (sa 2 sc.nd (ve_int))) (vss_nil)) (vss_cons (sa 3 sc.nd (ve_bin opr_add opn_add (vg_val (ve_int)) (vg_val (ve_bin op_modN opn_mod (vg_val (ve_bin opr_div opn_div (vg_val (ve_call (F_Lmix c) mono_Lmix (hr.mono (by omega)) rfl rfl (va_cons (vg_val (nv 0)) (va_cons (vg_val (ve_int)) (va_nil))))) (vg_val (ve_int)))) (vg_val (ve_int)))))) (vss_cons (vs_if (vt_cmp (opr_eq hr) opn_eq (vg_val (ve_bin op_modN opn_mod (vg_val (ve_bin opr_div opn_div (vg_val (ve_call (F_Lmix c) mono_Lmix (hr.mono (by omega)) rfl rfl (va_cons (vg_val (nv 0)) (va_cons (vg_val (ve_int)) (va_nil))))) (vg_val (ve_int)))) (vg_val (ve_int)))) (vg_val (ve_int)) rfl) (vss_one (sa 3 sc.nd (ve_bin opr_add opn_add (vg_val (ve_int)) (vg_val (ve_bin op_modN opn_mod (vg_val (ve_bin opr_div opn_div (vg_val (ve_call (F_Lmix c) mono_Lmix (hr.mono (by omega)) rfl rfl (va_cons (vg_val (nv 0)) (va_cons (vg_val (ve_int)) (va_nil))))) (vg_val (ve_int)))) (vg_val (ve_int))))))) (vss_nil)) (vss_cons (sa 4 sc.nd (ve_ix hr (vg_val (ve_lst (va_cons (vg_val (ve_bin opr_add opn_add (vg_val (nv 2)) (vg_val (nv 3)))) (va_cons (vg_val ((ve_str rfl))) (va_nil))))) (vg_val (ve_bin op_modN opn_mod (vg_val (ve_bin opr_div opn_div (vg_val (ve_call (F_Lmix c) mono_Lmix (hr.mono (by omega)) rfl rfl (va_cons (vg_val (nv 0)) (va_cons (vg_val (ve_int)) (va_nil))))) (vg_val (ve_int)))) (vg_val (ve_int)))) (fun _ _ => rfl))) (vss_cons (sa 5 sc.nd (ve_still (ve_call (F_Lcounting c) mono_Lcounting (hr.mono (by omega)) rfl rfl (va_cons (vg_val (ve_bin op_modN opn_mod (vg_val (ve_bin opr_div opn_div (vg_val (ve_call (F_Lmix c) mono_Lmix (hr.mono (by omega)) rfl rfl (va_cons (vg_val (nv 0)) (va_cons (vg_val (ve_int)) (va_nil))))) (vg_val (ve_int)))) (vg_val (ve_int)))) (va_cons (vg_val (nv 1)) (va_cons (vg_val (nv 4)) (va_cons (vg_val (ve_int)) (va_nil)))))))) (vss_cons (sa 6 sc.nd (ve_bin op_modN opn_mod (vg_val (ve_bin opr_div opn_div (vg_val (ve_call (F_Lmix c) mono_Lmix (hr.mono (by omega)) rfl rfl (va_cons (vg_val (nv 0)) (va_cons (vg_val (ve_int)) (va_nil))))) (vg_val (ve_int)))) (vg_val (ve_int)))) (vss_cons (sa 7 sc.nd (ve_still (ve_call (F_Lspin c) mono_Lspin (hr.mono (by omega)) rfl rfl (va_cons (vg_val (ve_call (F_Lmix c) mono_Lmix (hr.mono (by omega)) rfl rfl (va_cons (vg_val (nv 0)) (va_cons (vg_val (ve_int)) (va_nil))))) (va_cons (vg_val (ve_bin op_modN opn_mod (vg_val (ve_bin opr_div opn_div (vg_val (ve_call (F_Lmix c) mono_Lmix (hr.mono (by omega)) rfl rfl (va_cons (vg_val (nv 0)) (va_cons (vg_val (ve_int)) (va_nil))))) (vg_val (ve_int)))) (vg_val (ve_int)))) (va_nil)))))) (vss_cons (sa 5 sc.nd (ve_still (ve_call (F_Lwithin c) mono_Lwithin (hr.mono (by omega)) rfl rfl (va_cons (vg_val (ve_still (ve_bin opr_add opn_add (vg_val (nv 5)) (vg_val (ve_call (F_Llast c) mono_Llast (hr.mono (by omega)) rfl rfl (va_cons (vg_val (nv 6)) (va_cons (vg_val (nv 1)) (va_cons (vg_val (nv 7)) (va_nil))))))))) (va_cons (vg_val (ve_call (F_Lmix c) mono_Lmix (hr.mono (by omega)) rfl rfl (va_cons (vg_val (nv 0)) (va_cons (vg_val (ve_int)) (va_nil))))) (va_cons (vg_val (ve_bin op_modN opn_mod (vg_val (ve_bin opr_div opn_div (vg_val (ve_call (F_Lmix c) mono_Lmix (hr.mono (by omega)) rfl rfl (va_cons (vg_val (nv 0)) (va_cons (vg_val (ve_int)) (va_nil))))) (vg_val (ve_int)))) (vg_val (ve_int)))) (va_nil))))))) (vss_cons (sa 8 sc.nd (ve_disp (vpps_cons ((ve_str rfl)) (ve_bin opr_add opn_add (vg_val (nv 2)) (vg_val (nv 3))) (vpps_nil)) rfl rfl (by simp) (by decide) (fun N ε Q h => by simpa [vdCons, vdNil] using h))) (vss_cons (vs_if (vt_cmp (opr_ne hr) opn_ne (vg_val (nv 2)) (vg_val (ve_int)) rfl) (vss_one (vs_set hr (nv 2) (np 8) (nq 1))) (vss_nil)) (vss_cons (sa 9 sc.nd (ve_bin op_modN opn_mod (vg_val (ve_bin opr_div opn_div (vg_val (ve_call (F_Lmix c) mono_Lmix (hr.mono (by omega)) rfl rfl (va_cons (vg_val (nv 0)) (va_cons (vg_val (ve_int)) (va_nil))))) (vg_val (ve_int)))) (vg_val (ve_int)))) (vss_cons (sa 10 sc.nd (ve_ix hr (vg_val (ve_lst (va_cons (vg_val (ve_int)) (va_cons (vg_val (ve_int)) (va_cons (vg_val (ve_bin opr_mulA opn_mul (vg_val (ve_int)) (vg_val (nv 3)))) (va_cons (vg_val (ve_bin op_sub opn_sub (vg_val (ve_bin opr_mulA opn_mul (vg_val (ve_int)) (vg_val (nv 3)))) (vg_val (ve_int)))) (va_cons (vg_val (ve_bin opr_add opn_add (vg_val (ve_bin opr_mulA opn_mul (vg_val (ve_int)) (vg_val (nv 3)))) (vg_val (ve_int)))) (va_cons (vg_val (ve_bin op_modN opn_mod (vg_val (ve_call (F_Lraw c) mono_Lraw (hr.mono (by omega)) rfl rfl (va_cons (vg_val (nv 0)) (va_cons (vg_val (ve_int)) (va_nil))))) (vg_val (ve_int)))) (va_nil))))))))) (vg_val (nv 9)) (fun _ _ => rfl))) (vss_cons (vs_if (vt_cmp (opr_eq hr) opn_eq (vg_val (nv 9)) (vg_val (ve_int)) rfl) (vss_one (sa 11 sc.nd (ve_still (ve_lendD (F_run_form_d c) mono_run_form (hr.mono (by omega)) rfl rfl (wvs_cons (wv_name 5) (wvs_cons (wv_name 8) (wvs_nil))))))) (vss_one (sa 11 sc.nd (ve_still (ve_lend (F_run_form c) mono_run_form (hr.mono (by omega)) rfl rfl (wvs_cons (wv_name 5) (wvs_cons (wv_name 8) (wvs_cons (wv_name 10) (wvs_nil))))))))) (vss_cons (sa 12 sc.nd (ve_still (ve_call (F_Ldeeds c) mono_Ldeeds (hr.mono (by omega)) rfl rfl (va_cons (vg_val (nv 1)) (va_cons (vg_val (nv 2)) (va_cons (vg_val (nv 3)) (va_cons (vg_val (nv 10)) (va_nil)))))))) (vss_cons (sa 13 sc.nd (ve_callTy call_dictD opn_dict rfl c.b_dict rfl (al 8 (va_nil)))) (vss_cons (vs_if (vt_cmp op_gt opn_gt (vg_val (ve_callB call_lenA opn_len rfl c.b_len rfl (va_cons (vg_val (nv 12)) (va_nil)))) (vg_val (ve_int)) rfl) (vss_one (vs_set hr (ve_bin opr_add opn_add (vg_val (nv 2)) (vg_val (ve_bin opr_div opn_div (vg_val (ve_bin opr_add opn_add (vg_val (ve_callB call_lenA opn_len rfl c.b_len rfl (va_cons (vg_val (nv 12)) (va_nil)))) (vg_val (ve_int)))) (vg_val (ve_int))))) (np 13) (nq 1))) (vss_nil)) (vss_cons (vs_if (vt_w (vw_or (vt_not (vt_val (ve_callB call_isi opn_isi rfl c.b_isinstance rfl (va_cons (vg_val (nv 11)) (va_cons (vg_val ((ve_ty rfl c.b_tuple rfl))) (va_nil)))))) (vw_or (vt_cmp (opr_ne hr) opn_ne (vg_val (ve_callB call_lenA opn_len rfl c.b_len rfl (va_cons (vg_val (nv 11)) (va_nil)))) (vg_val (ve_int)) rfl) (vw_or1 (vt_not (vt_val (ve_call (F_Lalike c 8) (mono_Lalike 8) (hr.mono (by omega)) rfl rfl (va_cons (vg_val (ve_ix hr (vg_val (nv 11)) (vg_val (ve_int)) (fun _ _ => rfl))) (va_cons (vg_val (ve_call (F_Lword c) mono_Lword (hr.mono (by omega)) rfl rfl (va_cons (vg_val (nv 6)) (va_cons (vg_val (nv 3)) (va_cons (vg_val (nv 10)) (va_nil)))))) (va_nil)))))))))) (vss_one (vs_ret (ve_bl))) (vss_nil)) (vss_one (vs_ret (ve_and (ve_call (F_Lalike c 8) (mono_Lalike 8) (hr.mono (by omega)) rfl rfl (va_cons (vg_val (ve_ix hr (vg_val (nv 11)) (vg_val (ve_int)) (fun _ _ => rfl))) (va_cons (vg_val (nv 12)) (va_nil)))) (ve_one (ve_view (wv_call (F_Lsame_memory c) mono_Lsame_memory (hr.mono (by omega)) rfl rfl (wvs_cons (wv_ix hr (wv_name 11) (wv_int) (fun _ _ => rfl)) (wvs_cons (wv_name 13) (wvs_nil))))))))))))))))))))))))))))) mono_law rd_law
end Pk53
namespace Pk53
open PySem PySem.Spec PyProof.Rows L2 VL
def dd_Deeds_told : He.DefD := ⟨("Deeds", some "told"), "told", "Deeds.told", defArgs s_Deeds_told, defBody s_Deeds_told, defScope s_Deeds_told, [], []⟩
def dd_Deeds_test_of : He.DefD := ⟨("Deeds", some "test_of"), "test_of", "Deeds.test_of", defArgs s_Deeds_test_of, defBody s_Deeds_test_of, defScope s_Deeds_test_of, [], []⟩
def dd_Deeds_sum_of : He.DefD := ⟨("Deeds", some "sum_of"), "sum_of", "Deeds.sum_of", defArgs s_Deeds_sum_of, defBody s_Deeds_sum_of, defScope s_Deeds_sum_of, [], []⟩
def dd_Deeds_name_of : He.DefD := ⟨("Deeds", some "name_of"), "name_of", "Deeds.name_of", defArgs s_Deeds_name_of, defBody s_Deeds_name_of, defScope s_Deeds_name_of, [], []⟩
def dd_Deeds_worth_of : He.DefD := ⟨("Deeds", some "worth_of"), "worth_of", "Deeds.worth_of", defArgs s_Deeds_worth_of, defBody s_Deeds_worth_of, defScope s_Deeds_worth_of, [], []⟩
def dd_Deeds_full : He.DefD := ⟨("Deeds", some "full"), "full", "Deeds.full", defArgs s_Deeds_full, defBody s_Deeds_full, defScope s_Deeds_full, [], []⟩
def dd_Deeds_init : He.DefD := ⟨("Deeds", some "__init__"), "__init__", "Deeds.__init__", defArgs s_Deeds_init, defBody s_Deeds_init, defScope s_Deeds_init, [], []⟩
def dd_made : He.DefD := ⟨("made", none), "made", "made", defArgs s_made, defBody s_made, defScope s_made, [], []⟩
def dd_holds : He.DefD := ⟨("holds", none), "holds", "holds", defArgs s_holds, defBody s_holds, defScope s_holds, [], []⟩
def dd_worth : He.DefD := ⟨("worth", none), "worth", "worth", defArgs s_worth, defBody s_worth, defScope s_worth, [], []⟩
def dd_run_round : He.DefD := ⟨("run_round", none), "run_round", "run_round", defArgs s_run_round, defBody s_run_round, defScope s_run_round, [], []⟩
def dd_run_statement : He.DefD := ⟨("run_statement", none), "run_statement", "run_statement", defArgs s_run_statement, defBody s_run_statement, defScope s_run_statement, [], []⟩
def dd_run_list : He.DefD := ⟨("run_list", none), "run_list", "run_list", defArgs s_run_list, defBody s_run_list, defScope s_run_list, [], []⟩
def dd_run_form : He.DefD := ⟨("run_form", none), "run_form", "run_form", defArgs s_run_form, defBody s_run_form, defScope s_run_form, [.int 100], []⟩
def dd_Lraw : He.DefD := ⟨("_law_raw", none), "_law_raw", "_law_raw", defArgs s_Lraw, defBody s_Lraw, defScope s_Lraw, [], []⟩
def dd_Lmix : He.DefD := ⟨("_law_mix", none), "_law_mix", "_law_mix", defArgs s_Lmix, defBody s_Lmix, defScope s_Lmix, [], []⟩
def dd_Lalike : He.DefD := ⟨("_law_alike", none), "_law_alike", "_law_alike", defArgs s_Lalike, defBody s_Lalike, defScope s_Lalike, [], []⟩
def dd_Lsame_memory : He.DefD := ⟨("_law_same_memory", none), "_law_same_memory", "_law_same_memory", defArgs s_Lsame_memory, defBody s_Lsame_memory, defScope s_Lsame_memory, [], []⟩
def dd_Lcounting : He.DefD := ⟨("_law_counting", none), "_law_counting", "_law_counting", defArgs s_Lcounting, defBody s_Lcounting, defScope s_Lcounting, [], []⟩
def dd_Lspin : He.DefD := ⟨("_law_spin", none), "_law_spin", "_law_spin", defArgs s_Lspin, defBody s_Lspin, defScope s_Lspin, [], []⟩
def dd_Llast : He.DefD := ⟨("_law_last", none), "_law_last", "_law_last", defArgs s_Llast, defBody s_Llast, defScope s_Llast, [], []⟩
def dd_Lwithin : He.DefD := ⟨("_law_within", none), "_law_within", "_law_within", defArgs s_Lwithin, defBody s_Lwithin, defScope s_Lwithin, [], []⟩
def dd_Ldeeds : He.DefD := ⟨("_law_deeds", none), "_law_deeds", "_law_deeds", defArgs s_Ldeeds, defBody s_Ldeeds, defScope s_Ldeeds, [], []⟩
def dd_Lword : He.DefD := ⟨("_law_word", none), "_law_word", "_law_word", defArgs s_Lword, defBody s_Lword, defScope s_Lword, [], []⟩
def dd_law : He.DefD := ⟨("law", none), "law", "law", defArgs s_law, defBody s_law, defScope s_law, [], []⟩
def dd_ini : He.DefD := ⟨("JumpError", some "__init__"), "__init__", "JumpError.__init__", defArgs s_ini, defBody s_ini, defScope s_ini, [.non], []⟩
def fnD : List He.DefD := [dd_Deeds_told, dd_Deeds_test_of, dd_Deeds_sum_of, dd_Deeds_name_of, dd_Deeds_worth_of, dd_Deeds_full, dd_Deeds_init, dd_made, dd_holds, dd_worth, dd_run_round, dd_run_statement, dd_run_list, dd_run_form, dd_Lraw, dd_Lmix, dd_Lalike, dd_Lsame_memory, dd_Lcounting, dd_Lspin, dd_Llast, dd_Lwithin, dd_Ldeeds, dd_Lword, dd_law, dd_ini]
def faD : List He.Fa := [.glo "made", .glo "holds", .glo "worth", .glo "run_round", .glo "run_statement", .glo "run_list", .glo "run_form", .glo "_law_raw", .glo "_law_mix", .glo "_law_alike", .glo "_law_same_memory", .glo "_law_counting", .glo "_law_spin", .glo "_law_last", .glo "_law_within", .glo "_law_deeds", .glo "_law_word", .glo "law", .free "dict", .free "list", .free "len", .free "divmod", .free "isinstance", .free "str", .free "bool", .free "int", .free "tuple", .free "zip", .free "range", .free "min", .free "ValueError", .glo "ByNought", .cls "Deeds", .mkr "Deeds", .glo "Deeds", .noat "Deeds" "memory", .noat "Deeds" "done", .noat "Deeds" "most", .meth "Deeds" "full", .meth "Deeds" "worth_of", .meth "Deeds" "name_of", .meth "Deeds" "sum_of", .meth "Deeds" "test_of", .meth "Deeds" "told"]
def exD : PySem.W.Frag → Bool := fun K => exOk RLx ctx ktx K
abbrev RowR : PySem.W.OpenRow := PySem.W.OpenLaw.row PySem.Challenge.rw_unjump_k53_spinning
abbrev hkR : PySem.W.Hook := He.hookX 6 faD fnD [] [] exD
def obR (s : PySem.W.SharedT) : He.AlX := He.obsX 6 faD fnD [] [] exD (HandSHeadRun.getT s)
theorem obR_eq (s : PySem.W.SharedT) : obR s = hkR.obs s.abs := He.obsX_eq (HandSHeadRun.getT_eq s)
def loose0 : List Str := ["JumpError", "ByNought", "made", "holds", "worth", "Deeds", "run_round", "run_statement", "run_list", "run_form", "_law_raw", "_law_mix", "_law_alike", "_law_same_memory", "_law_counting", "_law_spin", "_law_last", "_law_within", "_law_deeds", "_law_word"]
def looseR : List Str := loose0
theorem runR (w : World) : HandSHeadRun.RunEq RowR (PySem.W.view RowR.prog [25]) hkR obR 6000 looseR w := by
  intro os
  kernel_rfl
theorem hdR {w : World} {K : PySem.W.Frag} {h : Heap} {mg : Str → Option Value} (X : K.In h) (G : h.Ns mainGlobals mg) (c : He.SaysX faD fnD [] [] exD w h K) : Hd K mg where
  f_Deeds_told := c.t.d.def_ 0 (d := dd_Deeds_told) rfl
  f_Deeds_test_of := c.t.d.def_ 1 (d := dd_Deeds_test_of) rfl
  f_Deeds_sum_of := c.t.d.def_ 2 (d := dd_Deeds_sum_of) rfl
  f_Deeds_name_of := c.t.d.def_ 3 (d := dd_Deeds_name_of) rfl
  f_Deeds_worth_of := c.t.d.def_ 4 (d := dd_Deeds_worth_of) rfl
  f_Deeds_full := c.t.d.def_ 5 (d := dd_Deeds_full) rfl
  f_Deeds_init := c.t.d.def_ 6 (d := dd_Deeds_init) rfl
  f_made := fnAt_of X G (c.t.d.fact 0 (f := .glo "made") rfl) rfl (c.t.d.def_ 7 (d := dd_made) rfl)
  f_holds := fnAt_of X G (c.t.d.fact 1 (f := .glo "holds") rfl) rfl (c.t.d.def_ 8 (d := dd_holds) rfl)
  f_worth := fnAt_of X G (c.t.d.fact 2 (f := .glo "worth") rfl) rfl (c.t.d.def_ 9 (d := dd_worth) rfl)
  f_run_round := fnAt_of X G (c.t.d.fact 3 (f := .glo "run_round") rfl) rfl (c.t.d.def_ 10 (d := dd_run_round) rfl)
  f_run_statement := fnAt_of X G (c.t.d.fact 4 (f := .glo "run_statement") rfl) rfl (c.t.d.def_ 11 (d := dd_run_statement) rfl)
  f_run_list := fnAt_of X G (c.t.d.fact 5 (f := .glo "run_list") rfl) rfl (c.t.d.def_ 12 (d := dd_run_list) rfl)
  f_run_form := (fun ⟨fd, F⟩ => ⟨_, fd, He.glo_ok X G (c.t.d.fact 6 (f := .glo "run_form") rfl), F⟩) (c.t.d.def_ 13 (d := dd_run_form) rfl)
  f_Lraw := fnAt_of X G (c.t.d.fact 7 (f := .glo "_law_raw") rfl) rfl (c.t.d.def_ 14 (d := dd_Lraw) rfl)
  f_Lmix := fnAt_of X G (c.t.d.fact 8 (f := .glo "_law_mix") rfl) rfl (c.t.d.def_ 15 (d := dd_Lmix) rfl)
  f_Lalike := fnAt_of X G (c.t.d.fact 9 (f := .glo "_law_alike") rfl) rfl (c.t.d.def_ 16 (d := dd_Lalike) rfl)
  f_Lsame_memory := fnAt_of X G (c.t.d.fact 10 (f := .glo "_law_same_memory") rfl) rfl (c.t.d.def_ 17 (d := dd_Lsame_memory) rfl)
  f_Lcounting := fnAt_of X G (c.t.d.fact 11 (f := .glo "_law_counting") rfl) rfl (c.t.d.def_ 18 (d := dd_Lcounting) rfl)
  f_Lspin := fnAt_of X G (c.t.d.fact 12 (f := .glo "_law_spin") rfl) rfl (c.t.d.def_ 19 (d := dd_Lspin) rfl)
  f_Llast := fnAt_of X G (c.t.d.fact 13 (f := .glo "_law_last") rfl) rfl (c.t.d.def_ 20 (d := dd_Llast) rfl)
  f_Lwithin := fnAt_of X G (c.t.d.fact 14 (f := .glo "_law_within") rfl) rfl (c.t.d.def_ 21 (d := dd_Lwithin) rfl)
  f_Ldeeds := fnAt_of X G (c.t.d.fact 15 (f := .glo "_law_deeds") rfl) rfl (c.t.d.def_ 22 (d := dd_Ldeeds) rfl)
  f_Lword := fnAt_of X G (c.t.d.fact 16 (f := .glo "_law_word") rfl) rfl (c.t.d.def_ 23 (d := dd_Lword) rfl)
  f_law := fnAt_of X G (c.t.d.fact 17 (f := .glo "law") rfl) rfl (c.t.d.def_ 24 (d := dd_law) rfl)
  b_dict := He.free_ok X G (c.t.d.fact 18 (f := .free "dict") rfl)
  b_list := He.free_ok X G (c.t.d.fact 19 (f := .free "list") rfl)
  b_len := He.free_ok X G (c.t.d.fact 20 (f := .free "len") rfl)
  b_divmod := He.free_ok X G (c.t.d.fact 21 (f := .free "divmod") rfl)
  b_isinstance := He.free_ok X G (c.t.d.fact 22 (f := .free "isinstance") rfl)
  b_str := He.free_ok X G (c.t.d.fact 23 (f := .free "str") rfl)
  b_bool := He.free_ok X G (c.t.d.fact 24 (f := .free "bool") rfl)
  b_int := He.free_ok X G (c.t.d.fact 25 (f := .free "int") rfl)
  b_tuple := He.free_ok X G (c.t.d.fact 26 (f := .free "tuple") rfl)
  b_zip := He.free_ok X G (c.t.d.fact 27 (f := .free "zip") rfl)
  b_range := He.free_ok X G (c.t.d.fact 28 (f := .free "range") rfl)
  b_min := He.free_ok X G (c.t.d.fact 29 (f := .free "min") rfl)
  b_ValueError := He.free_ok X G (c.t.d.fact 30 (f := .free "ValueError") rfl)
  gx_ByNought := He.glo_ok X G (c.t.d.fact 31 (f := .glo "ByNought") rfl)
  ex := c.more
  ini := c.t.d.def_ 25 (d := dd_ini) rfl
  kl_Deeds := He.cls_ok (c.t.d.fact 32 (f := .cls "Deeds") rfl)
  mk_Deeds := He.mkr_ok (c.t.d.fact 33 (f := .mkr "Deeds") rfl)
  gc_Deeds := He.glo_ok X G (c.t.d.fact 34 (f := .glo "Deeds") rfl)
  na_Deeds_memory := He.noat_ok (c.t.d.fact 35 (f := .noat "Deeds" "memory") rfl)
  na_Deeds_done := He.noat_ok (c.t.d.fact 36 (f := .noat "Deeds" "done") rfl)
  na_Deeds_most := He.noat_ok (c.t.d.fact 37 (f := .noat "Deeds" "most") rfl)
  me_Deeds_full := He.meth_ok (c.t.d.fact 38 (f := .meth "Deeds" "full") rfl)
  me_Deeds_worth_of := He.meth_ok (c.t.d.fact 39 (f := .meth "Deeds" "worth_of") rfl)
  me_Deeds_name_of := He.meth_ok (c.t.d.fact 40 (f := .meth "Deeds" "name_of") rfl)
  me_Deeds_sum_of := He.meth_ok (c.t.d.fact 41 (f := .meth "Deeds" "sum_of") rfl)
  me_Deeds_test_of := He.meth_ok (c.t.d.fact 42 (f := .meth "Deeds" "test_of") rfl)
  me_Deeds_told := He.meth_ok (c.t.d.fact 43 (f := .meth "Deeds" "told") rfl)
end Pk53
open PySem PySem.W PySem.Calls PyProof.Rows
theorem PySem.Challenge.cw_unjump_k53_spinning_holds : PySem.Challenge.rw_unjump_k53_spinning.Holds := by
  w_on; o_law
  refine HandSHeadRun.head_any (r := OpenLaw.row PySem.Challenge.rw_unjump_k53_spinning) (q := view (OpenLaw.row PySem.Challenge.rw_unjump_k53_spinning).prog [25]) (H := Pk53.hkR) (ob := Pk53.obR) (M := 6000) (loose := Pk53.looseR) (d := HandSHeadRun.topDef (OpenLaw.row PySem.Challenge.rw_unjump_k53_spinning).prog 25) (kwd := []) Pk53.obR_eq
    (by kernel_rfl) (fun s => by kernel_rfl) Pk53.runR (by kernel_rfl) (by kernel_rfl) (by kernel_rfl) (by rfl) (by first | assumption | decide +kernel) (by decide +kernel) ⟨rfl, rfl, rfl, rfl, rfl, by decide +kernel⟩ ?hw ?hc
  case hw => w_witness2
  case hc =>
    refine LamX.walk_ofTsE (l := PySem.Challenge.rw_unjump_k53_spinning) (n := 63) (k := 193) (x := "_law_script") (CX := fun w => VL.CX (PySem.Challenge.rw_unjump_k53_spinning).prog w) rfl (by decide) (by kernel_rfl) ⟨rfl, by decide, by decide⟩ ?F VL.cx_no
    intro w mg fa h Y G hmg0
    obtain ⟨K, KX, c⟩ := Y
    have hmg : mg ("law" : PySem.Str) = some (.ref fa) := by
      have e : (HandSHeadRun.topDef (OpenLaw.row PySem.Challenge.rw_unjump_k53_spinning).prog 25).name = ("law" : PySem.Str) := by kernel_rfl
      rw [← e]
      exact hmg0
    have hd := Pk53.hdR (w := w) KX G c
    exact ⟨K, KX, VL.lawAt hmg hd.f_law Pk53.bd_law (Pk53.ok_law hd) Pk53.mono_law Pk53.law_true⟩
